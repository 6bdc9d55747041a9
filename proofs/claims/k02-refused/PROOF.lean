import PyProof.Rows.All
import Wide.All
import OpenK.AllK
import Wide.FinOn
import KE.KStateDown
import HandS.HeadEnd
import HandS.Head2
import HandS.HeadHook3
import HandS.Comp
import HandS.Dict
import HandS.Iter
import HandS.Text
import HandS.Exc
import HandS.Deep
import HandS.ExcOwn
import HandS.Style
import HandS.Walk
import HandS.More
import HandS.WordsList
import HandS.CallSlots
import HandS.WordsExc
import HandS.RaiseMore
import KE.DataMinMax
import KE.GoesEnum
import PyProof.ListStr
import HandS.Codes
import HandS.GenCall
import HandS.GenList
import HandS.IsInst
import KE.KExcSuper
import HandS.FStr
import HandS.ExcIs
import HandS.ExcInit
import KE.KExcIs
import KE.KIsAll
import PySem.Challenge.RW_commentedout_k02_tongues_refused
section -- DA
set_option Elab.async false
set_option linter.all false
set_option maxRecDepth 100000
/-! The data layer: deep values, a frozen part of the heap, states, judgements. -/
namespace DL
open PySem PySem.Spec L2

/-- all that was tracked is as it was -/
def Sm (H H1 : Hp) : Prop := ∀ b o, H b = some o → H1 b = some o
theorem Sm.refl (H : Hp) : Sm H H := fun _ _ h => h
theorem Sm.trans {H H1 H2 : Hp} (a : Sm H H1) (b : Sm H1 H2) : Sm H H2 := fun x o h => b x o (a x o h)

/-- a text of the model by its code points -/
abbrev sx (x : List Nat) : Str := ⟨x.toArray⟩
theorem sx_cps (x : List Nat) : (sx x).cps.toList = x := rfl
theorem sx_of (x : Str) : sx x.cps.toList = x := rfl
theorem sx_inj {x y : List Nat} (h : sx x = sx y) : x = y := by
  have := congrArg (fun z : Str => z.cps.toList) h
  exact this
theorem sx_length (x : List Nat) : (sx x).length = x.length := rfl

/-- deep values -/
inductive D where
  | non | bl (b : Bool) | int (i : Int) | str (x : List Nat) | lst (xs : List D) | tup (xs : List D)
  | obj (C : Addr) (fs : List (Str × D)) | dct (kvs : List (Key × D)) | fn (a : Addr) | ty (n : String)
  | loc (i : Nat) | shr (k : Nat) | scr (xs : List Int)
instance : Inhabited D := ⟨.non⟩

/-- what is owned: a list, a dict, an instance that may still change -/
inductive Own where
  | lst (xs : List D) | dct (kvs : List (Key × D)) | obj (C : Addr) (fs : List (Str × D))
/-- a slot -/
inductive Sl where
  | non | dat (d : D) | own (o : Own) | bor (o : Own)
structure S where
  sl : List Sl
  mu : List Own

/-- the ghost: the frozen part of the heap; the addresses of the shared store -/
structure Gh where
  G : Hp
  as : List Addr

def Gle (g g' : Gh) : Prop := Sm g.G g'.G ∧ ∃ r, g'.as = g.as ++ r
theorem Gle.refl (g : Gh) : Gle g g := ⟨fun _ _ h => h, [], by simp⟩
theorem Gle.trans {a b c : Gh} (h : Gle a b) (k : Gle b c) : Gle a c := by
  obtain ⟨h1, r1, e1⟩ := h
  obtain ⟨k1, r2, e2⟩ := k
  exact ⟨h1.trans k1, r1 ++ r2, by rw [e2, e1, List.append_assoc]⟩
theorem Gle.as {g g' : Gh} (h : Gle g g') {k : Nat} {a : Addr} (e : g.as[k]? = some a) : g'.as[k]? = some a := by
  obtain ⟨_, r, e1⟩ := h
  rw [e1, List.getElem?_append_left]
  · exact e
  · exact (List.getElem?_eq_some_iff.mp e).1

section
variable (K : PySem.W.Frag)
mutual
/-- the value v is the datum d -/
def rep (g : Gh) : D → V → Prop
  | .non, v => v = .non
  | .bl b, v => v = .bl b
  | .int i, v => v = .int i
  | .str x, v => v = .str (sx x)
  | .lst ds, v => ∃ a vs, v = .ref a ∧ g.G a = some (.lst vs) ∧ reps g ds vs
  | .tup ds, v => ∃ a vs, v = .ref a ∧ SqT K g.G a vs ∧ reps g ds vs
  | .obj C fs, v => ∃ a dx vs, v = .ref a ∧ g.G a = some (.ins C dx vs) ∧ repF g fs vs
  | .dct kvs, v => ∃ a vs, v = .ref a ∧ g.G a = some (.dK vs) ∧ repK g kvs vs
  | .fn a, v => v = .ref a
  | .ty n, v => v = .ty n
  | .loc _, _ => False
  | .shr k, v => ∃ a, v = .ref a ∧ g.as[k]? = some a
  | .scr xs, v => ∃ a, v = .ref a ∧ SqL K g.G a (xs.map V.int)
def reps (g : Gh) : List D → List V → Prop
  | [], vs => vs = []
  | d :: ds, vs => ∃ v r, vs = v :: r ∧ rep g d v ∧ reps g ds r
def repF (g : Gh) : List (Str × D) → List (Str × V) → Prop
  | [], vs => vs = []
  | (n, d) :: ds, vs => ∃ v r, vs = (n, v) :: r ∧ rep g d v ∧ repF g ds r
def repK (g : Gh) : List (Key × D) → List (Key × V) → Prop
  | [], vs => vs = []
  | (n, d) :: ds, vs => ∃ v r, vs = (n, v) :: r ∧ rep g d v ∧ repK g ds r
end
end
section
variable {K : PySem.W.Frag} {g g' : Gh}
theorem SqL.mono {H H' : Hp} {a : Addr} {xs : List V} (e : Sm H H') (h : SqL K H a xs) : SqL K H' a xs := by
  rcases h with (h | ⟨o, h⟩) | h
  · exact .inl (.inl (e _ _ h))
  · exact .inl (.inr ⟨o, e _ _ h⟩)
  · exact .inr h
theorem SqT.mono {H H' : Hp} {a : Addr} {xs : List V} (e : Sm H H') (h : SqT K H a xs) : SqT K H' a xs := by
  rcases h with (h | ⟨o, h⟩) | h
  · exact .inl (.inl (e _ _ h))
  · exact .inl (.inr ⟨o, e _ _ h⟩)
  · exact .inr h
mutual
theorem rep_mono (m : Gle g g') : ∀ (d : D) (v : V), rep K g d v → rep K g' d v
  | .non, _, h => h
  | .bl _, _, h => h
  | .int _, _, h => h
  | .str _, _, h => h
  | .lst ds, v, h => by
    obtain ⟨a, vs, e, h1, h2⟩ := h
    exact ⟨a, vs, e, m.1 _ _ h1, reps_mono m ds vs h2⟩
  | .tup ds, v, h => by
    obtain ⟨a, vs, e, h1, h2⟩ := h
    exact ⟨a, vs, e, SqT.mono m.1 h1, reps_mono m ds vs h2⟩
  | .obj C fs, v, h => by
    obtain ⟨a, dx, vs, e, h1, h2⟩ := h
    exact ⟨a, dx, vs, e, m.1 _ _ h1, repF_mono m fs vs h2⟩
  | .dct kvs, v, h => by
    obtain ⟨a, vs, e, h1, h2⟩ := h
    exact ⟨a, vs, e, m.1 _ _ h1, repK_mono m kvs vs h2⟩
  | .fn _, _, h => h
  | .ty _, _, h => h
  | .loc _, _, h => h
  | .shr _, _, h => by
    obtain ⟨a, e, h1⟩ := h
    exact ⟨a, e, m.as h1⟩
  | .scr _, _, h => by
    obtain ⟨a, e, h1⟩ := h
    exact ⟨a, e, SqL.mono m.1 h1⟩
theorem reps_mono (m : Gle g g') : ∀ (ds : List D) (vs : List V), reps K g ds vs → reps K g' ds vs
  | [], _, h => h
  | d :: ds, vs, h => by
    obtain ⟨v, r, e, h1, h2⟩ := h
    exact ⟨v, r, e, rep_mono m d v h1, reps_mono m ds r h2⟩
theorem repF_mono (m : Gle g g') : ∀ (ds : List (Str × D)) (vs : List (Str × V)), repF K g ds vs → repF K g' ds vs
  | [], _, h => h
  | (n, d) :: ds, vs, h => by
    obtain ⟨v, r, e, h1, h2⟩ := h
    exact ⟨v, r, e, rep_mono m d v h1, repF_mono m ds r h2⟩
theorem repK_mono (m : Gle g g') : ∀ (ds : List (Key × D)) (vs : List (Key × V)), repK K g ds vs → repK K g' ds vs
  | [], _, h => h
  | (n, d) :: ds, vs, h => by
    obtain ⟨v, r, e, h1, h2⟩ := h
    exact ⟨v, r, e, rep_mono m d v h1, repK_mono m ds r h2⟩
end
theorem reps_length : ∀ {ds : List D} {vs : List V}, reps K g ds vs → vs.length = ds.length
  | [], _, h => by cases h; rfl
  | d :: ds, vs, h => by
    obtain ⟨v, r, rfl, _, h2⟩ := h
    simp [reps_length h2]
theorem repF_length : ∀ {ds : List (Str × D)} {vs : List (Str × V)}, repF K g ds vs → vs.length = ds.length
  | [], _, h => by cases h; rfl
  | (n, d) :: ds, vs, h => by
    obtain ⟨v, r, rfl, _, h2⟩ := h
    simp [repF_length h2]
theorem repK_length : ∀ {ds : List (Key × D)} {vs : List (Key × V)}, repK K g ds vs → vs.length = ds.length
  | [], _, h => by cases h; rfl
  | (n, d) :: ds, vs, h => by
    obtain ⟨v, r, rfl, _, h2⟩ := h
    simp [repK_length h2]
theorem reps_get : ∀ {ds : List D} {vs : List V} {i : Nat} {d : D}, reps K g ds vs → ds[i]? = some d → ∃ v, vs[i]? = some v ∧ rep K g d v
  | [], _, _, _, _, e => by simp at e
  | d :: ds, vs, 0, x, h, e => by
    obtain ⟨v, r, rfl, h1, h2⟩ := h
    simp at e; subst e
    exact ⟨v, rfl, h1⟩
  | d :: ds, vs, i + 1, x, h, e => by
    obtain ⟨v, r, rfl, h1, h2⟩ := h
    simp at e
    simpa using reps_get h2 e
theorem reps_append : ∀ {ds es : List D} {vs us : List V}, reps K g ds vs → reps K g es us → reps K g (ds ++ es) (vs ++ us)
  | [], _, _, _, h, k => by cases h; exact k
  | d :: ds, es, vs, us, h, k => by
    obtain ⟨v, r, rfl, h1, h2⟩ := h
    exact ⟨v, r ++ us, rfl, h1, reps_append h2 k⟩
theorem reps_one {d : D} {v : V} (h : rep K g d v) : reps K g [d] [v] := ⟨v, [], rfl, h, rfl⟩
theorem reps_take : ∀ {ds : List D} {vs : List V} (n : Nat), reps K g ds vs → reps K g (ds.take n) (vs.take n)
  | _, _, 0, _ => by simp [reps]
  | [], _, n + 1, h => by cases h; simp [reps]
  | d :: ds, vs, n + 1, h => by
    obtain ⟨v, r, rfl, h1, h2⟩ := h
    exact ⟨v, r.take n, rfl, h1, reps_take n h2⟩
theorem reps_drop : ∀ {ds : List D} {vs : List V} (n : Nat), reps K g ds vs → reps K g (ds.drop n) (vs.drop n)
  | _, _, 0, h => h
  | [], _, n + 1, h => by cases h; simp [reps]
  | d :: ds, vs, n + 1, h => by
    obtain ⟨v, r, rfl, h1, h2⟩ := h
    exact reps_drop n h2
theorem reps_erase : ∀ {ds : List D} {vs : List V} (n : Nat), reps K g ds vs → reps K g (ds.eraseIdx n) (vs.eraseIdx n)
  | [], _, n, h => by cases h; simp [reps]
  | d :: ds, vs, 0, h => by
    obtain ⟨v, r, rfl, h1, h2⟩ := h
    exact h2
  | d :: ds, vs, n + 1, h => by
    obtain ⟨v, r, rfl, h1, h2⟩ := h
    exact ⟨v, r.eraseIdx n, rfl, h1, reps_erase n h2⟩
theorem repF_lookup : ∀ {ds : List (Str × D)} {vs : List (Str × V)} {n : Str} {d : D}, repF K g ds vs → ds.lookup n = some d → ∃ v, vs.lookup n = some v ∧ rep K g d v
  | [], _, _, _, _, e => by simp at e
  | (m, d) :: ds, vs, n, x, h, e => by
    obtain ⟨v, r, rfl, h1, h2⟩ := h
    by_cases hn : n == m
    · simp only [List.lookup, hn] at e ⊢
      cases e
      exact ⟨v, rfl, h1⟩
    · simp only [List.lookup, hn] at e ⊢
      exact repF_lookup h2 e
theorem repF_lookup_none : ∀ {ds : List (Str × D)} {vs : List (Str × V)} {n : Str}, repF K g ds vs → ds.lookup n = none → vs.lookup n = none
  | [], _, _, h, _ => by cases h; rfl
  | (m, d) :: ds, vs, n, h, e => by
    obtain ⟨v, r, rfl, h1, h2⟩ := h
    by_cases hn : n == m
    · simp only [List.lookup, hn] at e ⊢
      cases e
    · simp only [List.lookup, hn] at e ⊢
      exact repF_lookup_none h2 e
def putD (f : Str) (v : D) : List (Str × D) → List (Str × D)
  | [] => [(f, v)]
  | (g, x) :: r => if g = f then (g, v) :: r else (g, x) :: putD f v r
theorem repF_put {f : Str} {d : D} {v : V} (h : rep K g d v) : ∀ {ds : List (Str × D)} {vs : List (Str × V)}, repF K g ds vs → repF K g (putD f d ds) (putF f v vs)
  | [], _, e => by cases e; exact ⟨v, [], rfl, h, rfl⟩
  | (m, x) :: ds, vs, e => by
    obtain ⟨u, r, rfl, h1, h2⟩ := e
    unfold putD putF
    by_cases hm : m = f
    · rw [if_pos hm, if_pos hm]
      exact ⟨v, r, rfl, h, h2⟩
    · rw [if_neg hm, if_neg hm]
      exact ⟨u, _, rfl, h1, repF_put h h2⟩
theorem putD_length (f : Str) (v : D) : ∀ fs : List (Str × D), (putD f v fs).length ≤ fs.length + 1
  | [] => by simp [putD]
  | (g, x) :: r => by
    unfold putD
    split
    · simp
    · have := putD_length f v r
      simp; omega
end

/-! ### states -/
section
variable (K : PySem.W.Frag)
def OwnRep (g : Gh) (H : Hp) (a : Addr) : Own → Prop
  | .lst ds => ∃ vs, H a = some (.lst vs) ∧ reps K g ds vs
  | .dct kvs => ∃ vs, H a = some (.dK vs) ∧ repK K g kvs vs
  | .obj C fs => ∃ dx vs, H a = some (.ins C dx vs) ∧ repF K g fs vs
/-- the shared part: frozen part and store -/
structure GR (g : Gh) (H : Hp) (mu : List Own) : Prop where
  sub : Sm g.G H
  len : mu.length = g.as.length
  st : ∀ (k : Nat) (o : Own) (a : Addr), mu[k]? = some o → g.as[k]? = some a → OwnRep K g H a o ∧ g.G a = none
  nd : g.as.Nodup
/-- what happened since the entry -/
structure Frm (g : Gh) (H : Hp) (g' : Gh) (H' : Hp) : Prop where
  le : Gle g g'
  keep : ∀ a o, H a = some o → a ∉ g.as → H' a = some o
  there : ∀ a, H' a = none → H a = none
  frz : ∀ a, g'.G a ≠ none → g.G a ≠ none ∨ H a = none
  new : ∀ a, a ∈ g'.as → a ∈ g.as ∨ H a = none
/-- the entry of a body; self: what an __init__ makes -/
structure En where
  g : Gh
  H : Hp
  self : Option Addr
structure SR (Z : En) (s : S) (g : Gh) (σ : St) (H : Hp) : Prop where
  gr : GR K g H s.mu
  fr : Frm Z.g Z.H g H
  dat : ∀ (i : Nat) (d : D), s.sl[i]? = some (.dat d) → ∃ v, σ[i]? = some (some v) ∧ rep K g d v
  own : ∀ (i : Nat) (o : Own), s.sl[i]? = some (.own o) → ∃ a, σ[i]? = some (some (.ref a)) ∧ OwnRep K g H a o ∧ g.G a = none ∧ a ∉ g.as ∧ Z.H a = none
  bor : ∀ (i : Nat) (o : Own), s.sl[i]? = some (.bor o) → ∃ a, σ[i]? = some (some (.ref a)) ∧ OwnRep K g H a o ∧ a ∉ g.as ∧ (Z.H a ≠ none ∧ a ∉ Z.g.as)
  apart : ∀ (i j : Nat) (o u : Own) (a : Addr), s.sl[i]? = some (.own o) → s.sl[j]? = some (.own u) → σ[i]? = some (some (.ref a)) → σ[j]? = some (some (.ref a)) → i = j
  len : s.sl.length = σ.length
  self : ∀ (i : Nat) (C : Addr) (fs : List (Str × D)), s.sl[i]? = some (.own (.obj C fs)) → ∃ a, Z.self = some a ∧ σ[i]? = some (some (.ref a))
/-- a value of an expression: a datum or what slot i owns -/
def repL (g : Gh) (σ : St) : D → V → Prop
  | .loc i, v => σ[i]? = some (some v)
  | d, v => rep K g d v
end
section
variable {K : PySem.W.Frag} {Z0 : En} {g g' : Gh} {H H' : Hp} {s : S} {σ : St} {a : Addr} {o : Own}
theorem Frm.refl (h : Sm g.G H) : Frm g H g H := ⟨Gle.refl g, fun _ _ h _ => h, fun _ h => h, fun _ h => .inl h, fun _ h => .inl h⟩
theorem Frm.trans {g'' : Gh} {H'' : Hp} (h : Frm g H g' H') (k : Frm g' H' g'' H'') : Frm g H g'' H'' := by
  refine ⟨h.le.trans k.le, fun a o e n => ?_, fun a e => h.there a (k.there a e), fun a e => ?_, fun a e => ?_⟩
  · refine k.keep a o (h.keep a o e n) fun q => ?_
    rcases h.new a q with z | z
    · exact n z
    · rw [z] at e; cases e
  · rcases k.frz a e with z | z
    · exact h.frz a z
    · exact .inr (h.there a z)
  · rcases k.new a e with z | z
    · exact h.new a z
    · exact .inr (h.there a z)
theorem OwnRep.mono (m : Gle g g') (e : H' a = H a) (h : OwnRep K g H a o) : OwnRep K g' H' a o := by
  cases o with
  | lst ds => obtain ⟨vs, h1, h2⟩ := h; exact ⟨vs, e.trans h1, reps_mono m _ _ h2⟩
  | dct ds => obtain ⟨vs, h1, h2⟩ := h; exact ⟨vs, e.trans h1, repK_mono m _ _ h2⟩
  | obj C ds => obtain ⟨dx, vs, h1, h2⟩ := h; exact ⟨dx, vs, e.trans h1, repF_mono m _ _ h2⟩
theorem OwnRep.some (h : OwnRep K g H a o) : ∃ u, H a = some u := by
  cases o with
  | lst ds => obtain ⟨vs, h1, h2⟩ := h; exact ⟨_, h1⟩
  | dct ds => obtain ⟨vs, h1, h2⟩ := h; exact ⟨_, h1⟩
  | obj C ds => obtain ⟨dx, vs, h1, h2⟩ := h; exact ⟨_, h1⟩
theorem GR.mem (h : GR K g H s.mu) (e : a ∈ g.as) : ∃ u, H a = some u := by
  obtain ⟨k, hk⟩ := List.mem_iff_getElem?.mp e
  have hl : k < s.mu.length := by rw [h.len]; exact (List.getElem?_eq_some_iff.mp hk).1
  exact (h.st k s.mu[k] a (List.getElem?_eq_getElem hl) hk).1.some
theorem repL_mono (m : Gle g g') {d : D} {v : V} (h : repL K g σ d v) : repL K g' σ d v := by
  cases d with
  | loc i => exact h
  | _ => exact rep_mono m _ _ h
theorem repL_of {d : D} {v : V} (h : rep K g d v) : repL K g σ d v := by
  cases d with
  | loc i => exact False.elim h
  | _ => exact h
end
end DL
end
section -- DB
set_option Elab.async false
set_option linter.all false
set_option maxRecDepth 100000
namespace DL
open PySem PySem.Spec L2

/-! ### the monad -/
structure Ex where
  cls : Value
  fs : List (Str × D)
inductive R (α : Type) where
  | ok (a : α) (s : S) | exc (x : Ex) (s : S) | bad
abbrev M (α : Type) := S → R α
/-- a mark that holds a continuation still: simp does not look into it -/
inductive Tag {α : Type} (a : α) : Type where
  | mk
def R.bind {α β : Type} (r : R α) (f : α → S → R β) (_t : Tag f := .mk) : R β := match r with
  | .ok a s => f a s
  | .exc x s => .exc x s
  | .bad => .bad
def mret {α : Type} (a : α) : M α := fun s => .ok a s
def mb {α β : Type} (m : M α) (f : α → M β) : M β := fun s => (m s).bind f
def mopt {α : Type} (o : S → Option α) : M α := fun s => match o s with
  | some a => .ok a s
  | none => .bad
@[simp] theorem R.bind_ok {α β : Type} (a : α) (s : S) (f : α → S → R β) : (R.ok a s).bind f = f a s := rfl
@[simp] theorem R.bind_exc {α β : Type} (a : Ex) (s : S) (f : α → S → R β) : (R.exc a s).bind f = .exc a s := rfl
@[simp] theorem R.bind_bad {α β : Type} (f : α → S → R β) : (R.bad : R α).bind f = .bad := rfl

def Own.dat : Own → D
  | .lst xs => .lst xs
  | .dct k => .dct k
  | .obj C fs => .obj C fs
def D.own? : D → Option Own
  | .lst xs => some (.lst xs)
  | .dct k => some (.dct k)
  | .obj C fs => some (.obj C fs)
  | _ => none
/-- what a value holds, to be read -/
def dr (s : S) : D → Option Own
  | .loc i => match s.sl[i]? with
    | some (.own o) => some o
    | some (.bor o) => some o
    | some (.dat d) => d.own?
    | _ => none
  | .shr k => s.mu[k]?
  | d => d.own?
/-- a value as a datum: what is owned is frozen -/
def fz : D → M D
  | .loc i => fun s => match s.sl[i]? with
    | some (.own o) => .ok o.dat { s with sl := s.sl.set i (.dat o.dat) }
    | some (.dat d) => .ok d s
    | _ => .bad
  | d => fun s => .ok d s
def fzs : List D → M (List D)
  | [] => mret []
  | d :: ds => mb (fz d) fun x => mb (fzs ds) fun xs => mret (x :: xs)

section
variable (K : PySem.W.Frag)
def xrep (g : Gh) (H : Hp) (x : Ex) (cls : Value) (dd : Option Addr) : Prop :=
  cls = x.cls ∧ match x.fs with
    | [] => dd = none
    | fs => ∃ d vs, dd = some d ∧ g.G d = some (.xd vs) ∧ repF K g fs vs
def repLs (g : Gh) (σ : St) : List D → List V → Prop
  | [], vs => vs = []
  | d :: ds, vs => ∃ v r, vs = v :: r ∧ repL K g σ d v ∧ repLs g σ ds r
end
section
variable (K : PySem.W.Frag)
abbrev SRz (Z : En) (s : S) (g : Gh) (σ : St) (H : Hp) : Prop := SR K Z s g σ H
/-- what an exception's end is -/
def XEnd (Z : En) (W : WX) (g : Gh) (σ : St) (x : Ex) (s : S) : Prop :=
  ∀ cls dd H' g', Gle g g' → SRz K Z s g' σ H' → xrep K g' H' x cls dd → W cls dd σ H'
def EEnd (Z : En) (W : WX) (g : Gh) (σ : St) (Q : VK) (r : R D) : Prop := match r with
  | .ok d s => ∀ v H' g', Gle g g' → SRz K Z s g' σ H' → repL K g' σ d v → Q v H'
  | .exc x s => XEnd K Z W g σ x s
  | .bad => False
def BEnd {β : Type} (Z : En) (W : WX) (g : Gh) (σ : St) (Q : β → Hp → Prop) (r : R β) : Prop := match r with
  | .ok d s => ∀ H' g', Gle g g' → SRz K Z s g' σ H' → Q d H'
  | .exc x s => XEnd K Z W g σ x s
  | .bad => False
def AEnd (Z : En) (W : WX) (g : Gh) (σ : St) (Q : List V → Hp → Prop) (r : R (List D)) : Prop := match r with
  | .ok d s => ∀ v H' g', Gle g g' → SRz K Z s g' σ H' → repLs K g' σ d v → Q v H'
  | .exc x s => XEnd K Z W g σ x s
  | .bad => False
def tD (Z : En) (W : WX) (m : M D) : TE := fun σ H Q => ∃ s g, SRz K Z s g σ H ∧ EEnd K Z W g σ Q (m s)
def tT {β : Type} (Z : En) (W : WX) (m : M β) : St → Hp → (β → Hp → Prop) → Prop := fun σ H Q => ∃ s g, SRz K Z s g σ H ∧ BEnd K Z W g σ Q (m s)
def tA (Z : En) (W : WX) (m : M (List D)) : TA := fun σ H Q => ∃ s g, SRz K Z s g σ H ∧ AEnd K Z W g σ Q (m s)
end

section
variable {Z : En} {W : WX} {g g' : Gh} {σ : St} {H : Hp} {s : S} {K : PySem.W.Frag}
theorem XEnd.up {x : Ex} (m : Gle g g') (h : XEnd K Z W g σ x s) : XEnd K Z W g' σ x s := fun cls dd H' g2 m2 => h cls dd H' g2 (m.trans m2)
theorem EEnd.up {Q : VK} {r : R D} (m : Gle g g') (h : EEnd K Z W g σ Q r) : EEnd K Z W g' σ Q r := by
  cases r with
  | ok d s => exact fun v H' g2 m2 => h v H' g2 (m.trans m2)
  | exc x s => exact XEnd.up m h
  | bad => exact h
theorem BEnd.up {β : Type} {Q : β → Hp → Prop} {r : R β} (m : Gle g g') (h : BEnd K Z W g σ Q r) : BEnd K Z W g' σ Q r := by
  cases r with
  | ok d s => exact fun H' g2 m2 => h H' g2 (m.trans m2)
  | exc x s => exact XEnd.up m h
  | bad => exact h
theorem AEnd.up {Q : List V → Hp → Prop} {r : R (List D)} (m : Gle g g') (h : AEnd K Z W g σ Q r) : AEnd K Z W g' σ Q r := by
  cases r with
  | ok d s => exact fun v H' g2 m2 => h v H' g2 (m.trans m2)
  | exc x s => exact XEnd.up m h
  | bad => exact h
/-- the ends -/
structure IsEnd (K : PySem.W.Frag) (Z : En) (W : WX) (σ : St) {α : Type} (P : Gh → R α → Prop) : Prop where
  up : ∀ {g g' r}, Gle g g' → P g r → P g' r
  hx : ∀ {g x s}, P g (.exc x s) → XEnd K Z W g σ x s
  hb : ∀ {g}, P g .bad → False
theorem isE {Q : VK} : IsEnd K Z W σ (fun g r => EEnd K Z W g σ Q r) := ⟨fun m h => EEnd.up m h, fun h => h, fun h => h⟩
theorem isB {β : Type} {Q : β → Hp → Prop} : IsEnd K Z W σ (fun g r => BEnd K Z W g σ Q r) := ⟨fun m h => BEnd.up m h, fun h => h, fun h => h⟩
theorem isA {Q : List V → Hp → Prop} : IsEnd K Z W σ (fun g r => AEnd K Z W g σ Q r) := ⟨fun m h => AEnd.up m h, fun h => h, fun h => h⟩
theorem goD {α : Type} {m : M D} {f : D → S → R α} {k : VK} {P : Gh → R α → Prop} (ie : IsEnd K Z W σ P) (sr : SRz K Z s g σ H) (e : P g ((m s).bind f))
    (hk : ∀ d s' v H' g', Gle g g' → SRz K Z s' g' σ H' → repL K g' σ d v → P g' (f d s') → k v H') : tD K Z W m σ H k := by
  refine ⟨s, g, sr, ?_⟩
  cases hm : m s with
  | ok d s' =>
    rw [hm] at e
    intro v H' g' le sr' rp
    exact hk d s' v H' g' le sr' rp (ie.up le e)
  | exc x s' => rw [hm] at e; exact ie.hx e
  | bad => rw [hm] at e; exact (ie.hb e).elim
theorem goT {α β : Type} {m : M β} {f : β → S → R α} {k : β → Hp → Prop} {P : Gh → R α → Prop} (ie : IsEnd K Z W σ P) (sr : SRz K Z s g σ H) (e : P g ((m s).bind f))
    (hk : ∀ d s' H' g', Gle g g' → SRz K Z s' g' σ H' → P g' (f d s') → k d H') : tT K Z W m σ H k := by
  refine ⟨s, g, sr, ?_⟩
  cases hm : m s with
  | ok d s' =>
    rw [hm] at e
    intro H' g' le sr'
    exact hk d s' H' g' le sr' (ie.up le e)
  | exc x s' => rw [hm] at e; exact ie.hx e
  | bad => rw [hm] at e; exact (ie.hb e).elim
theorem goA {α : Type} {m : M (List D)} {f : List D → S → R α} {k : List V → Hp → Prop} {P : Gh → R α → Prop} (ie : IsEnd K Z W σ P) (sr : SRz K Z s g σ H) (e : P g ((m s).bind f))
    (hk : ∀ d s' v H' g', Gle g g' → SRz K Z s' g' σ H' → repLs K g' σ d v → P g' (f d s') → k v H') : tA K Z W m σ H k := by
  refine ⟨s, g, sr, ?_⟩
  cases hm : m s with
  | ok d s' =>
    rw [hm] at e
    intro v H' g' le sr' rp
    exact hk d s' v H' g' le sr' rp (ie.up le e)
  | exc x s' => rw [hm] at e; exact ie.hx e
  | bad => rw [hm] at e; exact (ie.hb e).elim
end

/-! ### consequence -/
section
variable {X : Cx} {e : Expr} {es : List Expr}
theorem PE.weak {t t' : TE} (h : PE X e t) (hw : ∀ σ H Q, t' σ H Q → t σ H Q) : PE X e t' := ⟨fun pins s σ H Q I q => h.run pins s σ H Q I (hw σ H Q q)⟩
theorem PT.weak {t t' : TT} (h : PT X e t) (hw : ∀ σ H Q, t' σ H Q → t σ H Q) : PT X e t' := ⟨fun pins s σ H Q I q => h.run pins s σ H Q I (hw σ H Q q)⟩
theorem PA.weak {t t' : TA} (h : PA X es t) (hw : ∀ σ H Q, t' σ H Q → t σ H Q) : PA X es t' := ⟨fun pos pins s σ H Q I q => h.run pos pins s σ H Q I (hw σ H Q q)⟩
theorem PS.weak {st : Stmt} {t t' : TS} (h : PS X st t) (hw : ∀ D σ H, t' D σ H → t D σ H) : PS X st t' := ⟨fun pins s σ H D I q => h.run pins s σ H D I (hw D σ H q)⟩
theorem PSs.weak {st : List Stmt} {t t' : TS} (h : PSs X st t) (hw : ∀ D σ H, t' D σ H → t D σ H) : PSs X st t' := ⟨fun pins s σ H D I q => h.run pins s σ H D I (hw D σ H q)⟩
end

/-! ### values that are read, frozen, made -/
section
variable {Z : En} {W : WX} {g g' : Gh} {σ : St} {H : Hp} {s : S} {K : PySem.W.Frag}
theorem SqL.G {a : Addr} {vs : List V} {H : Hp} (h : H a = some (.lst vs)) : SqL K H a vs := .inl (.inl h)
/-- reading -/
theorem read_own {Z0 : En} {d : D} {v : V} {o : Own} (sr : SR K Z0 s g σ H) (r : repL K g σ d v) (e : dr s d = some o) : ∃ a, v = .ref a ∧ OwnRep K g H a o := by
  have dat : ∀ {d : D} {v : V} {o : Own}, rep K g d v → d.own? = some o → ∃ a, v = .ref a ∧ OwnRep K g H a o := by
    intro d v o r e
    cases d with
    | lst xs =>
      simp only [D.own?, Option.some.injEq] at e
      subst e
      obtain ⟨a, vs, e1, e2, e3⟩ := r
      exact ⟨a, e1, vs, sr.gr.sub _ _ e2, e3⟩
    | dct xs =>
      simp only [D.own?, Option.some.injEq] at e
      subst e
      obtain ⟨a, vs, e1, e2, e3⟩ := r
      exact ⟨a, e1, vs, sr.gr.sub _ _ e2, e3⟩
    | obj C xs =>
      simp only [D.own?, Option.some.injEq] at e
      subst e
      obtain ⟨a, dx, vs, e1, e2, e3⟩ := r
      exact ⟨a, e1, dx, vs, sr.gr.sub _ _ e2, e3⟩
    | _ => simp [D.own?] at e
  cases d with
  | loc i =>
    simp only [dr] at e
    have r : σ[i]? = some (some v) := r
    cases q : s.sl[i]? with
    | none => rw [q] at e; cases e
    | some z =>
      rw [q] at e
      cases z with
      | non => cases e
      | dat d =>
        obtain ⟨v', h1, h2⟩ := sr.dat i d q
        rw [r] at h1; cases h1
        exact dat h2 e
      | own u =>
        cases e
        obtain ⟨a, h1, h2, _⟩ := sr.own i o q
        rw [r] at h1; cases h1
        exact ⟨a, rfl, h2⟩
      | bor u =>
        cases e
        obtain ⟨a, h1, h2, _⟩ := sr.bor i o q
        rw [r] at h1; cases h1
        exact ⟨a, rfl, h2⟩
  | shr k =>
    simp only [dr] at e
    obtain ⟨a, e1, e2⟩ := r
    exact ⟨a, e1, (sr.gr.st k o a e e2).1⟩
  | lst xs => exact dat r e
  | dct xs => exact dat r e
  | obj C xs => exact dat r e
  | non => cases e
  | bl _ => cases e
  | int _ => cases e
  | str _ => cases e
  | tup _ => cases e
  | fn _ => cases e
  | ty _ => cases e
  | scr _ => cases e
theorem sl_off {l : List Sl} {i j : Nat} {z : Sl} {o : Own} (hz : ∀ o, z ≠ .own o) (e : (l.set i z)[j]? = some (.own o)) : j ≠ i ∧ l[j]? = some (.own o) := by
  by_cases h : j = i
  · subst h
    have hl : j < l.length := by
      have := (List.getElem?_eq_some_iff.mp e).1
      simpa using this
    rw [List.getElem?_set_self hl] at e
    cases e
    exact absurd rfl (hz o)
  · rw [List.getElem?_set_ne (Ne.symm h)] at e
    exact ⟨h, e⟩
/-- freezing a slot's object: the ghost grows, nothing else happens -/
theorem freeze_slot {Z0 : En} {i : Nat} {o : Own} {v : V} (sr : SR K Z0 s g σ H) (e : s.sl[i]? = some (.own o)) (r : σ[i]? = some (some v)) :
    ∃ g', Gle g g' ∧ SR K Z0 { s with sl := s.sl.set i (.dat o.dat) } g' σ H ∧ rep K g' o.dat v := by
  obtain ⟨a, h1, h2, h3, h4, h5⟩ := sr.own i o e
  rw [r] at h1; cases h1
  obtain ⟨u, hu⟩ := h2.some
  have le : Gle g ⟨upd g.G a u, g.as⟩ := ⟨fun b x q => by
    show upd g.G a u b = some x
    rw [upd_ne (fun z => by rw [z, h3] at q; cases q)]; exact q, [], by simp⟩
  refine ⟨⟨upd g.G a u, g.as⟩, le, ⟨⟨fun b x q => ?_, sr.gr.len, fun k w b q1 q2 => ?_, sr.gr.nd⟩, ⟨sr.fr.le.trans le, sr.fr.keep, sr.fr.there, fun b q => ?_, sr.fr.new⟩, fun j d q => ?_, fun j w q => ?_, fun j w q => ?_, fun j j2 w w2 b q1 q2 q3 q4 => ?_, by simpa using sr.len, fun j C fs q => sr.self j C fs (sl_off (by intro o z; cases z) q).2⟩, ?_⟩
  · by_cases hb : b = a
    · subst hb
      have : upd g.G b u b = some x := q
      rw [upd_same] at this; cases this
      exact hu
    · have : upd g.G a u b = some x := q
      rw [upd_ne hb] at this
      exact sr.gr.sub _ _ this
  · obtain ⟨z1, z2⟩ := sr.gr.st k w b q1 q2
    refine ⟨z1.mono le rfl, ?_⟩
    show upd g.G a u b = none
    rw [upd_ne (fun z => h4 (by rw [← z]; exact List.mem_of_getElem? q2))]
    exact z2
  · by_cases hb : b = a
    · subst hb; exact .inr h5
    · have : upd g.G a u b ≠ none := q
      rw [upd_ne hb] at this
      exact sr.fr.frz b this
  · by_cases hj : j = i
    · subst hj
      rw [List.getElem?_set_self (by exact (List.getElem?_eq_some_iff.mp e).1)] at q
      cases q
      refine ⟨.ref a, r, ?_⟩
      cases o with
      | lst ds =>
        obtain ⟨vs, k1, k2⟩ := h2
        rw [hu] at k1; cases k1
        exact ⟨a, vs, rfl, upd_same, reps_mono le _ _ k2⟩
      | dct ds =>
        obtain ⟨vs, k1, k2⟩ := h2
        rw [hu] at k1; cases k1
        exact ⟨a, vs, rfl, upd_same, repK_mono le _ _ k2⟩
      | obj C ds =>
        obtain ⟨dx, vs, k1, k2⟩ := h2
        rw [hu] at k1; cases k1
        exact ⟨a, dx, vs, rfl, upd_same, repF_mono le _ _ k2⟩
    · rw [List.getElem?_set_ne (Ne.symm hj)] at q
      obtain ⟨w, k1, k2⟩ := sr.dat j d q
      exact ⟨w, k1, rep_mono le _ _ k2⟩
  · have hj : j ≠ i := fun z => by
      subst z
      rw [List.getElem?_set_self (by exact (List.getElem?_eq_some_iff.mp e).1)] at q
      cases q
    rw [List.getElem?_set_ne (Ne.symm hj)] at q
    obtain ⟨b, k1, k2, k3, k4, k5⟩ := sr.own j w q
    refine ⟨b, k1, k2.mono le rfl, ?_, k4, k5⟩
    show upd g.G a u b = none
    rw [upd_ne (fun z => hj (sr.apart j i w o a q e (by rw [← z]; exact k1) r))]
    exact k3
  · have hj : j ≠ i := fun z => by
      subst z
      rw [List.getElem?_set_self (by exact (List.getElem?_eq_some_iff.mp e).1)] at q
      cases q
    rw [List.getElem?_set_ne (Ne.symm hj)] at q
    obtain ⟨b, k1, k2, k3, k4⟩ := sr.bor j w q
    exact ⟨b, k1, k2.mono le rfl, k3, k4⟩
  · have n1 : ∀ {j : Nat} {w : Own}, (s.sl.set i (.dat o.dat))[j]? = some (.own w) → s.sl[j]? = some (.own w) := fun {j w} q => by
      by_cases hj : j = i
      · subst hj
        rw [List.getElem?_set_self (by exact (List.getElem?_eq_some_iff.mp e).1)] at q
        cases q
      · rw [List.getElem?_set_ne (Ne.symm hj)] at q
        exact q
    exact sr.apart j j2 w w2 b (n1 q1) (n1 q2) q3 q4
  · cases o with
    | lst ds =>
      obtain ⟨vs, k1, k2⟩ := h2
      rw [hu] at k1; cases k1
      exact ⟨a, vs, rfl, upd_same, reps_mono le _ _ k2⟩
    | dct ds =>
      obtain ⟨vs, k1, k2⟩ := h2
      rw [hu] at k1; cases k1
      exact ⟨a, vs, rfl, upd_same, repK_mono le _ _ k2⟩
    | obj C ds =>
      obtain ⟨dx, vs, k1, k2⟩ := h2
      rw [hu] at k1; cases k1
      exact ⟨a, dx, vs, rfl, upd_same, repF_mono le _ _ k2⟩
theorem fz_ok {Z0 : En} {d d' : D} {v : V} {s' : S} (sr : SR K Z0 s g σ H) (r : repL K g σ d v) (e : fz d s = .ok d' s') :
    ∃ g', Gle g g' ∧ SR K Z0 s' g' σ H ∧ rep K g' d' v := by
  cases d with
  | loc i =>
    simp only [fz] at e
    have r : σ[i]? = some (some v) := r
    cases q : s.sl[i]? with
    | none => rw [q] at e; cases e
    | some z =>
      rw [q] at e
      cases z with
      | non => cases e
      | dat d =>
        cases e
        obtain ⟨v', h1, h2⟩ := sr.dat i d' q
        rw [r] at h1; cases h1
        exact ⟨g, Gle.refl g, sr, h2⟩
      | own u =>
        cases e
        exact freeze_slot sr q r
      | bor u => cases e
  | _ => cases e; exact ⟨g, Gle.refl g, sr, r⟩
theorem fz_noexc {d : D} {x : Ex} {s' : S} (e : fz d s = .exc x s') : False := by
  cases d with
  | loc i =>
    simp only [fz] at e
    cases q : s.sl[i]? with
    | none => rw [q] at e; cases e
    | some z =>
      rw [q] at e
      cases z <;> cases e
  | _ => cases e
theorem repLs_mono (le : Gle g g') : ∀ {ds : List D} {vs : List V}, repLs K g σ ds vs → repLs K g' σ ds vs
  | [], _, h => h
  | d :: ds, vs, h => by
    obtain ⟨v, r, rfl, k1, k2⟩ := h
    exact ⟨v, r, rfl, repL_mono le k1, repLs_mono le k2⟩
theorem fzs_ok {Z0 : En} : ∀ {ds ds' : List D} {vs : List V} {s s' : S} {g : Gh}, SR K Z0 s g σ H → repLs K g σ ds vs → fzs ds s = .ok ds' s' →
    ∃ g', Gle g g' ∧ SR K Z0 s' g' σ H ∧ reps K g' ds' vs
  | [], ds', vs, s, s', g, sr, r, e => by
    cases e
    exact ⟨g, Gle.refl g, sr, r⟩
  | d :: ds, ds', vs, s, s', g, sr, r, e => by
    obtain ⟨v, r1, rfl, h1, h2⟩ := r
    simp only [fzs, mb] at e
    cases q : fz d s with
    | bad => rw [q] at e; cases e
    | exc x s1 => exact (fz_noexc q).elim
    | ok d1 s1 =>
      rw [q] at e
      obtain ⟨g1, l1, sr1, rp1⟩ := fz_ok sr h1 q
      simp only [R.bind_ok, mb] at e
      cases q2 : fzs ds s1 with
      | bad => rw [q2] at e; cases e
      | exc x s1 => rw [q2] at e; cases e
      | ok d2 s2 =>
        rw [q2] at e
        have h2' : repLs K g1 σ ds r1 := repLs_mono l1 h2
        obtain ⟨g2, l2, sr2, rp2⟩ := fzs_ok sr1 h2' q2
        cases e
        exact ⟨g2, l1.trans l2, sr2, v, r1, rfl, rep_mono l2 _ _ rp1, rp2⟩
/-- a new frozen object -/
theorem SR.alloc {Z0 : En} {p : Addr} {u : HO} (sr : SR K Z0 s g σ H) (n : H p = none) :
    Gle g ⟨upd g.G p u, g.as⟩ ∧ SR K Z0 s ⟨upd g.G p u, g.as⟩ σ (upd H p u) := by
  have gn : g.G p = none := by
    cases q : g.G p with
    | none => rfl
    | some x => have := sr.gr.sub _ _ q; rw [n] at this; cases this
  have n0 : Z0.H p = none := sr.fr.there p n
  have le : Gle g ⟨upd g.G p u, g.as⟩ := ⟨fun b x q => by
    show upd g.G p u b = some x
    rw [upd_ne (fun z => by rw [z, gn] at q; cases q)]; exact q, [], by simp⟩
  have ne : ∀ {a : Addr} {o : Own}, OwnRep K g H a o → a ≠ p := fun {a o} h z => by
    obtain ⟨x, hx⟩ := h.some
    rw [z, n] at hx; cases hx
  refine ⟨le, ⟨⟨fun b x q => ?_, sr.gr.len, fun k w b q1 q2 => ?_, sr.gr.nd⟩, ⟨sr.fr.le.trans le, fun a o q1 q2 => ?_, fun a q => ?_, fun a q => ?_, sr.fr.new⟩, fun j d q => ?_, fun j w q => ?_, fun j w q => ?_, sr.apart, sr.len, sr.self⟩⟩
  · by_cases hb : b = p
    · subst hb
      have : upd g.G b u b = some x := q
      rw [upd_same] at this ⊢; exact this
    · have : upd g.G p u b = some x := q
      rw [upd_ne hb] at this ⊢
      exact sr.gr.sub _ _ this
  · obtain ⟨z1, z2⟩ := sr.gr.st k w b q1 q2
    have hb := ne z1
    exact ⟨z1.mono le (upd_ne hb), by show upd g.G p u b = none; rw [upd_ne hb]; exact z2⟩
  · have := sr.fr.keep a o q1 q2
    rw [upd_ne (fun z => by rw [z, n] at this; cases this)]; exact this
  · by_cases hb : a = p
    · subst hb; exact n0
    · rw [upd_ne hb] at q; exact sr.fr.there a q
  · by_cases hb : a = p
    · subst hb; exact .inr n0
    · have : upd g.G p u a ≠ none := q
      rw [upd_ne hb] at this
      exact sr.fr.frz a this
  · obtain ⟨w, k1, k2⟩ := sr.dat j d q
    exact ⟨w, k1, rep_mono le _ _ k2⟩
  · obtain ⟨b, k1, k2, k3, k4, k5⟩ := sr.own j w q
    have hb := ne k2
    exact ⟨b, k1, k2.mono le (upd_ne hb), by show upd g.G p u b = none; rw [upd_ne hb]; exact k3, k4, k5⟩
  · obtain ⟨b, k1, k2, k3, k4⟩ := sr.bor j w q
    exact ⟨b, k1, k2.mono le (upd_ne (ne k2)), k3, k4⟩
theorem SR.alloc_lst {Z0 : En} {p : Addr} {vs : List V} {ds : List D} (sr : SR K Z0 s g σ H) (n : H p = none) (r : reps K g ds vs) :
    ∃ g', Gle g g' ∧ SR K Z0 s g' σ (upd H p (.lst vs)) ∧ rep K g' (.lst ds) (.ref p) := by
  obtain ⟨le, sr'⟩ := sr.alloc (u := .lst vs) n
  exact ⟨_, le, sr', p, vs, rfl, upd_same, reps_mono le _ _ r⟩
theorem SR.alloc_tup {Z0 : En} {p : Addr} {vs : List V} {ds : List D} (sr : SR K Z0 s g σ H) (n : H p = none) (r : reps K g ds vs) :
    ∃ g', Gle g g' ∧ SR K Z0 s g' σ (upd H p (.tup vs)) ∧ rep K g' (.tup ds) (.ref p) := by
  obtain ⟨le, sr'⟩ := sr.alloc (u := .tup vs) n
  exact ⟨_, le, sr', p, vs, rfl, SqT.of upd_same, reps_mono le _ _ r⟩
theorem fzs_noexc : ∀ {ds : List D} {s s' : S} {x : Ex}, fzs ds s = .exc x s' → False
  | [], _, _, _, e => by cases e
  | d :: ds, s, s', x, e => by
    simp only [fzs, mb] at e
    cases q : fz d s with
    | bad => rw [q] at e; cases e
    | exc x s1 => exact fz_noexc q
    | ok d1 s1 =>
      rw [q] at e
      simp only [R.bind_ok, mb] at e
      cases q2 : fzs ds s1 with
      | bad => rw [q2] at e; cases e
      | exc x s1 => exact fzs_noexc q2
      | ok d2 s2 => rw [q2] at e; cases e
theorem fz_end {α : Type} {d : D} {v : V} {f : D → S → R α} {P : Gh → R α → Prop} (ie : IsEnd K Z W σ P) (sr : SRz K Z s g σ H) (r : repL K g σ d v) (h : P g ((fz d s).bind f)) :
    ∃ g' d' s', Gle g g' ∧ SRz K Z s' g' σ H ∧ rep K g' d' v ∧ P g' (f d' s') := by
  cases q : fz d s with
  | bad => rw [q] at h; exact (ie.hb h).elim
  | exc x s1 => exact (fz_noexc q).elim
  | ok d1 s1 =>
    rw [q] at h
    obtain ⟨g1, l1, sr1, rp1⟩ := fz_ok sr r q
    exact ⟨g1, d1, s1, l1, sr1, rp1, ie.up l1 h⟩
theorem fzs_end {α : Type} {ds : List D} {vs : List V} {f : List D → S → R α} {P : Gh → R α → Prop} (ie : IsEnd K Z W σ P) (sr : SRz K Z s g σ H) (r : repLs K g σ ds vs) (h : P g ((fzs ds s).bind f)) :
    ∃ g' ds' s', Gle g g' ∧ SRz K Z s' g' σ H ∧ reps K g' ds' vs ∧ P g' (f ds' s') := by
  cases q : fzs ds s with
  | bad => rw [q] at h; exact (ie.hb h).elim
  | exc x s1 => exact (fzs_noexc q).elim
  | ok d1 s1 =>
    rw [q] at h
    obtain ⟨g1, l1, sr1, rp1⟩ := fzs_ok sr r q
    exact ⟨g1, d1, s1, l1, sr1, rp1, ie.up l1 h⟩
end
end DL
end
section -- DC
set_option Elab.async false
set_option linter.all false
set_option maxRecDepth 100000
namespace DL
open PySem PySem.Spec L2

structure Ok (X : Cx) (W : WX) (k : Nat) : Prop where
  calm : X.calm = true
  nd : X.N.Nodup
  room : Room k X.A
  tk : Takes X W
  po : PassesOwn (model X.prog X.w) X.A X.env X.xe
theorem Ok.hu {X : Cx} {W : WX} {k : Nat} (o : Ok X W k) : X.A.units + 65 < cLine := by have := o.room.un; omega

/-! ### names, constants -/
def vr (i : Nat) : M D := fun s => match s.sl[i]? with
  | some (.dat d) => .ok d s
  | some (.own _) => .ok (.loc i) s
  | some (.bor _) => .ok (.loc i) s
  | _ => .bad
section
variable {X : Cx} {Z : En} {W : WX} {k : Nat}
theorem tVar_of {K : PySem.W.Frag} {i : Nat} {σ : St} {H : Hp} {Q : VK} (h : tD K Z W (vr i) σ H Q) : tVar i σ H Q := by
  obtain ⟨s, g, sr, e⟩ := h
  simp only [vr] at e
  cases q : s.sl[i]? with
  | none => rw [q] at e; exact e.elim
  | some z =>
    rw [q] at e
    cases z with
    | non => exact e.elim
    | dat d =>
      obtain ⟨v, h1, h2⟩ := sr.dat i d q
      exact ⟨v, h1, e v H g (Gle.refl g) sr (repL_of h2)⟩
    | own o =>
      obtain ⟨a, h1, _⟩ := sr.own i o q
      exact ⟨.ref a, h1, e _ H g (Gle.refl g) sr h1⟩
    | bor o =>
      obtain ⟨a, h1, _⟩ := sr.bor i o q
      exact ⟨.ref a, h1, e _ H g (Gle.refl g) sr h1⟩
theorem dv (i : Nat) {x : Str} {pos : Pos} (hN : X.N[i]? = some x := by rfl) (hv : Vis X.env.scope x := by first | exact Or.inl rfl | exact Or.inr (Or.inl rfl) | exact Or.inr (Or.inr rfl)) (hd : (x == ("__debug__" : Str)) = false := by decide) (hcd : (x == ("__classdict__" : Str)) = false := by decide) : PE X (.Name x pos) (tD X.K Z W (vr i)) :=
  PE.weak (pe_var hN hv hd hcd) fun σ H Q h => tVar_of h
/-- a value that is a datum whatever the heap -/
def Con (K : PySem.W.Frag) (d : D) (v : V) : Prop := ∀ g σ, repL K g σ d v
theorem dc {K : PySem.W.Frag} {e : Expr} {d : D} {v : V} (h : PE X e (tC v)) (c : Con X.K d v) : PE X e (tD X.K Z W (mret d)) :=
  PE.weak h fun σ H Q ⟨s, g, sr, e⟩ => e v H g (Gle.refl g) sr (c g σ)
theorem d_int {i : Int} {j pos} : PE X (.Constant (.int i) j pos) (tD X.K Z W (mret (.int i))) := dc (K := X.K) pe_int fun _ _ => rfl
theorem d_bl {b : Bool} {j pos} : PE X (.Constant (.bool b) j pos) (tD X.K Z W (mret (.bl b))) := dc (K := X.K) pe_bl fun _ _ => rfl
theorem d_non {j pos} : PE X (.Constant .none j pos) (tD X.K Z W (mret .non)) := dc (K := X.K) pe_non fun _ _ => rfl
/-- the code points of a written text -/
def cs (x : Str) : List Nat := x.cps.toList
theorem d_str {x : Str} {j pos} : PE X (.Constant (.str x) j pos) (tD X.K Z W (mret (.str (cs x)))) := dc (K := X.K) pe_str fun _ _ => rfl
theorem d_glob {x : Str} {v : V} {u : Value} {d : D} {pos : Pos} (hg : Gl X x) (hm : X.mg x = some u) (r : RelV v u) (c : Con X.K d v) (hd : (x == ("__debug__" : Str)) = false := by decide) : PE X (.Name x pos) (tD X.K Z W (mret d)) :=
  dc (K := X.K) (pe_glob hg hm r hd) c
end

/-! ### argument lists -/
def aNil : M (List D) := mret []
def aCons (m : M D) (r : M (List D)) : M (List D) := mb m fun d => mb r fun ds => mret (d :: ds)
section
variable {X : Cx} {Z : En} {W : WX} {k : Nat} {e : Expr} {es : List Expr} {m : M D} {r : M (List D)}
theorem da_nil : PA X [] (tA X.K Z W aNil) := PA.weak pa_nil fun σ H Q ⟨s, g, sr, e⟩ => e [] H g (Gle.refl g) sr rfl
theorem da_cons (he : PE X e (tD X.K Z W m)) (hr : PA X es (tA X.K Z W r)) (hs : starEach (e :: es) X.env = (false, eval e X.env) :: starEach es X.env := by rfl) :
    PA X (e :: es) (tA X.K Z W (aCons m r)) := by
  refine PA.weak (pa_cons he hr hs) fun σ H Q h => ?_
  obtain ⟨s, g, sr, e⟩ := h
  refine goD isA sr e fun d1 s1 v1 H1 g1 l1 sr1 r1 e1 => ?_
  refine goA isA sr1 e1 fun d2 s2 v2 H2 g2 l2 sr2 r2 e2 => ?_
  exact e2 (v1 :: v2) H2 g2 (Gle.refl _) sr2 ⟨v1, v2, rfl, repL_mono l2 r1, r2⟩
end

/-! ### operators by values -/
/-- a rule r of the layer serves the operation f on data -/
def OpD (K : PySem.W.Frag) (r : R2) (f : S → D → D → Option D) : Prop :=
  ∀ {Z : En} {s : S} {g : Gh} {σ : St} {H : Hp} {a b : D} {x y : V} {d : D} {Q : VK}, SRz K Z s g σ H → repL K g σ a x → repL K g σ b y → f s a b = some d →
    (∀ v H' g', Gle g g' → SRz K Z s g' σ H' → rep K g' d v → Q v H') → r x y H Q
def binD (f : S → D → D → Option D) (m1 m2 : M D) : M D := mb m1 fun a => mb m2 fun b => mopt fun s => f s a b
theorem OpD.or {K : PySem.W.Frag} {r r' : R2} {f f' : S → D → D → Option D} (h : OpD K r f) (h' : OpD K r' f') :
    OpD K (fun x y H Q => r x y H Q ∨ r' x y H Q) (fun s a b => match f s a b with | some d => some d | none => f' s a b) := by
  intro Z s g σ H a b x y d Q sr ra rb e q
  cases h1 : f s a b with
  | some d1 =>
    simp only [h1] at e
    cases e
    exact .inl (h sr ra rb h1 q)
  | none =>
    simp only [h1] at e
    exact .inr (h' sr ra rb e q)
theorem mopt_end {K : PySem.W.Frag} {Z : En} {W : WX} {σ : St} {α β : Type} {P : Gh → R α → Prop} (ie : IsEnd K Z W σ P) {g : Gh} {o : S → Option β} {s : S} {f : β → S → R α} (h : P g (((mopt o) s).bind f)) : ∃ d, o s = some d ∧ P g (f d s) := by
  unfold mopt at h
  cases q : o s with
  | none => rw [q] at h; exact (ie.hb h).elim
  | some d => rw [q] at h; exact ⟨d, rfl, h⟩
theorem mopt_endE {K : PySem.W.Frag} {Z : En} {W : WX} {σ : St} {α : Type} {P : Gh → R α → Prop} (ie : IsEnd K Z W σ P) {g : Gh} {o : S → Option α} {s : S} (h : P g (mopt o s)) : ∃ d, o s = some d ∧ P g (.ok d s) := by
  unfold mopt at h
  cases q : o s with
  | none => rw [q] at h; exact (ie.hb h).elim
  | some d => rw [q] at h; exact ⟨d, rfl, h⟩
section
variable {X : Cx} {Z : En} {W : WX} {k : Nat} {a b c : Expr} {m1 m2 m3 : M D}
theorem tOp_of {K : PySem.W.Frag} {r : R2} {f : S → D → D → Option D} (o : OpD K r f) {σ : St} {H : Hp} {Q : VK} (h : tD K Z W (binD f m1 m2) σ H Q) : tOp r (tD K Z W m1) (tD K Z W m2) σ H Q := by
  obtain ⟨s, g, sr, e⟩ := h
  refine goD isE sr e fun d1 s1 v1 H1 g1 l1 sr1 r1 e1 => ?_
  refine goD isE sr1 e1 fun d2 s2 v2 H2 g2 l2 sr2 r2 e2 => ?_
  obtain ⟨d, hd, q⟩ := mopt_endE isE e2
  exact o sr2 (repL_mono l2 r1) r2 hd fun v H' g' l sr' rp => q v H' g' l sr' (repL_of rp)
theorem d_op {op : Operator} {r : R2} {f : S → D → D → Option D} (ho : OpR X (binaryOp op) r) (o : OpD X.K r f) (ha : PE X a (tD X.K Z W m1)) (hb : PE X b (tD X.K Z W m2)) {pos : Pos} : PE X (.BinOp a op b pos) (tD X.K Z W (binD f m1 m2)) :=
  PE.weak (pe_op ho ha hb) fun σ H Q h => tOp_of o h
theorem d_cmp {op : CmpOp} {r : R2} {f : S → D → D → Option D} (ho : OpR X (compareOp op) r) (o : OpD X.K r f) (ha : PE X a (tD X.K Z W m1)) (hb : PE X b (tD X.K Z W m2)) (hm : behindInMarks op b = false) {pos : Pos} : PE X (.Compare a [op] [b] pos) (tD X.K Z W (binD f m1 m2)) :=
  PE.weak (pe_cmpR ho ha hb hm) fun σ H Q h => tOp_of o h
/-- a bool result as a test -/
def toB (d : D) : Option Bool := match d with | .bl b => some b | _ => none
def tstB (m : M D) : M Bool := mb m fun d => mopt fun _ => toB d
theorem tTest_of {K : PySem.W.Frag} {m : M D} {t : TE} (ht : ∀ {σ H Q}, tD K Z W m σ H Q → t σ H Q) {σ : St} {H : Hp} {Q : Bool → Hp → Prop} (h : tT K Z W (tstB m) σ H Q) : tTest t σ H Q := by
  refine ht ?_
  obtain ⟨s, g, sr, e⟩ := h
  refine goD isB sr e fun d1 s1 v1 H1 g1 l1 sr1 r1 e1 => ?_
  obtain ⟨d, hd, q⟩ := mopt_endE isB e1
  cases d1 with
  | bl b =>
    cases hd
    exact ⟨d, r1, q H1 g1 (Gle.refl _) sr1⟩
  | _ => cases hd
theorem t_cmp {op : CmpOp} {r : R2} {f : S → D → D → Option D} (ho : OpR X (compareOp op) r) (o : OpD X.K r f) (ha : PE X a (tD X.K Z W m1)) (hb : PE X b (tD X.K Z W m2)) (hm : behindInMarks op b = false) {pos : Pos} : PT X (.Compare a [op] [b] pos) (tT X.K Z W (tstB (binD f m1 m2))) :=
  PT.weak (pt_cmpR ho ha hb hm) fun σ H Q h => tTest_of (fun h => tOp_of o h) h
/-- a op b op' c -/
def chnD (f f' : S → D → D → Option D) (m1 m2 m3 : M D) : M D := mb m1 fun x => mb m2 fun y => mb (mopt fun s => (f s x y).bind toB) fun c => if c = true then mb m3 fun z => mopt fun s => f' s y z else mret (.bl false)
theorem tChain_of {K : PySem.W.Frag} {r r' : R2} {f f' : S → D → D → Option D} (o : OpD K r f) (o' : OpD K r' f') {σ : St} {H : Hp} {Q : VK} (h : tD K Z W (chnD f f' m1 m2 m3) σ H Q) : tChain r r' (tD K Z W m1) (tD K Z W m2) (tD K Z W m3) σ H Q := by
  obtain ⟨s, g, sr, e⟩ := h
  refine goD isE sr e fun d1 s1 v1 H1 g1 l1 sr1 r1 e1 => ?_
  refine goD isE sr1 e1 fun d2 s2 v2 H2 g2 l2 sr2 r2 e2 => ?_
  obtain ⟨c, hd, q⟩ := mopt_end isE e2
  cases hf : f s2 d1 d2 with
  | none => simp [hf] at hd
  | some d =>
    rw [hf] at hd
    cases d with
    | bl b =>
      have hb : b = c := Option.some.inj hd
      subst hb
      refine o sr2 (repL_mono l2 r1) r2 hf fun v H' g' l sr' rp => ⟨b, rp, ?_⟩
      cases b with
      | true =>
        rw [if_pos rfl] at q ⊢
        refine goD isE sr' (EEnd.up l q) fun d3 s3 v3 H3 g3 l3 sr3 r3 e3 => ?_
        obtain ⟨d, hd, q⟩ := mopt_endE isE e3
        exact o' sr3 (repL_mono (l.trans l3) r2) r3 hd fun v H' g' l sr' rp => q v H' g' l sr' (repL_of rp)
      | false =>
        rw [if_neg Bool.false_ne_true] at q ⊢
        exact q (.bl false) H' g' l sr' rfl
    | _ => cases hd
theorem d_chn {op op' : CmpOp} {r r' : R2} {f f' : S → D → D → Option D} (ho : OpR X (compareOp op) r) (o : OpD X.K r f) (ho' : OpR X (compareOp op') r') (o' : OpD X.K r' f') (ha : PE X a (tD X.K Z W m1)) (hb : PE X b (tD X.K Z W m2)) (hc : PE X c (tD X.K Z W m3)) (hm : lastMarks [op, op'] [b, c] = false := by with_unfolding_all rfl) {pos : Pos} :
    PE X (.Compare a [op, op'] [b, c] pos) (tD X.K Z W (chnD f f' m1 m2 m3)) := PE.weak (pe_chain ho ho' ha hb hc hm) fun σ H Q h => tChain_of o o' h
theorem t_chn {op op' : CmpOp} {r r' : R2} {f f' : S → D → D → Option D} (ho : OpR X (compareOp op) r) (o : OpD X.K r f) (ho' : OpR X (compareOp op') r') (o' : OpD X.K r' f') (ha : PE X a (tD X.K Z W m1)) (hb : PE X b (tD X.K Z W m2)) (hc : PE X c (tD X.K Z W m3)) (hm : lastMarks [op, op'] [b, c] = false := by with_unfolding_all rfl) {pos : Pos} :
    PT X (.Compare a [op, op'] [b, c] pos) (tT X.K Z W (tstB (chnD f f' m1 m2 m3))) := PT.weak (pt_chain ho ho' ha hb hc hm) fun σ H Q h => tTest_of (fun h => tChain_of o o' h) h
end

/-! ### the operations -/
def rdL (s : S) (d : D) : Option (List D) := match dr s d with | some (.lst xs) => some xs | _ => none
theorem rdL_ok {K : PySem.W.Frag} {Z : En} {s : S} {g : Gh} {σ : St} {H : Hp} {d : D} {v : V} {xs : List D} (sr : SRz K Z s g σ H) (r : repL K g σ d v) (e : rdL s d = some xs) : ∃ a vs, v = .ref a ∧ H a = some (.lst vs) ∧ reps K g xs vs := by
  unfold rdL at e
  cases q : dr s d with
  | none => rw [q] at e; cases e
  | some o =>
    rw [q] at e
    cases o with
    | lst ys =>
      cases e
      obtain ⟨a, e1, vs, e2, e3⟩ := read_own sr r q
      exact ⟨a, vs, e1, e2, e3⟩
    | _ => cases e
section
variable {K : PySem.W.Frag}
def iiD (g : Int → Int → Option D) (_ : S) (a b : D) : Option D := match a, b with | .int i, .int j => g i j | _, _ => none
theorem od_int {gv : Int → Int → V} {gd : Int → Int → D} (h : ∀ i j g, rep K g (gd i j) (gv i j)) : OpD K (rI0 gv) (iiD fun i j => some (gd i j)) := by
  intro Z s g σ H a b x y d Q sr ra rb e q
  cases a with
  | int i =>
    cases b with
    | int j =>
      cases e
      exact ⟨i, j, ra, rb, q _ H g (Gle.refl _) sr (h i j g)⟩
    | _ => cases e
  | _ => cases e
theorem od_intC {C : Int → Int → Prop} {gv : Int → Int → V} {gd : Int → Int → D} {c : Int → Int → Bool} (hc : ∀ i j, c i j = true → C i j) (h : ∀ i j g, rep K g (gd i j) (gv i j)) : OpD K (rI C gv) (iiD fun i j => if c i j = true then some (gd i j) else none) := by
  intro Z s g σ H a b x y d Q sr ra rb e q
  cases a with
  | int i =>
    cases b with
    | int j =>
      simp only [iiD] at e
      split at e
      · rename_i hh
        cases e
        exact ⟨i, j, ra, rb, hc _ _ hh, q _ H g (Gle.refl _) sr (h i j g)⟩
      · cases e
    | _ => cases e
  | _ => cases e
def strAdd (_ : S) (a b : D) : Option D := match a, b with | .str x, .str y => if x.length + y.length ≤ sizeLine then some (.str (x ++ y)) else none | _, _ => none
theorem sx_app (x y : List Nat) : sx x ++ sx y = sx (x ++ y) := by
  show (⟨x.toArray ++ y.toArray⟩ : Str) = _
  rw [List.append_toArray]
theorem od_strAdd : OpD K (fun x y H Q => ∃ i j, x = .str i ∧ y = .str j ∧ i.length + j.length ≤ sizeLine ∧ Q (.str (i ++ j)) H) strAdd := by
  intro Z s g σ H a b x y d Q sr ra rb e q
  cases a with
  | str i =>
    cases b with
    | str j =>
      simp only [strAdd] at e
      split at e
      · rename_i hh
        cases e
        exact ⟨sx i, sx j, ra, rb, hh, q _ H g (Gle.refl _) sr (by rw [sx_app]; rfl)⟩
      · cases e
    | _ => cases e
  | _ => cases e
def lstAdd (s : S) (a b : D) : Option D := match rdL s a, rdL s b with | some x, some y => if x.length + y.length ≤ sizeLine then some (.lst (x ++ y)) else none | _, _ => none
theorem od_lstAdd : OpD K rCat lstAdd := by
  intro Z s g σ H a b x y d Q sr ra rb e q
  unfold lstAdd at e
  cases h1 : rdL s a with
  | none => rw [h1] at e; cases e
  | some xs =>
    cases h2 : rdL s b with
    | none => rw [h1, h2] at e; cases e
    | some ys =>
      rw [h1, h2] at e
      simp only at e
      split at e
      · rename_i hh
        cases e
        obtain ⟨p, vs, e1, e2, e3⟩ := rdL_ok sr ra h1
        obtain ⟨p', vs', e1', e2', e3'⟩ := rdL_ok sr rb h2
        refine ⟨p, p', vs, vs', e1, e1', e2, e2', by rw [reps_length e3, reps_length e3']; exact hh, fun n hn => ?_⟩
        obtain ⟨g', l, sr', rp⟩ := sr.alloc_lst hn (reps_append e3 e3')
        exact q _ _ g' l sr' rp
      · cases e
def tupAdd (_ : S) (a b : D) : Option D := match a, b with | .tup (x :: xs), .tup y => if (x :: xs).length + y.length ≤ sizeLine then some (.tup ((x :: xs) ++ y)) else none | _, _ => none
theorem od_tupAdd : OpD K (rCatT K) tupAdd := by
  intro Z s g σ H a b x y d Q sr ra rb e q
  cases a with
  | tup xs =>
    cases xs with
    | nil => cases e
    | cons x1 xs =>
      cases b with
      | tup ys =>
        simp only [tupAdd] at e
        split at e
        · rename_i hh
          cases e
          obtain ⟨p, vs, e1, e2, e3⟩ := ra
          obtain ⟨p', vs', e1', e2', e3'⟩ := rb
          refine ⟨p, p', vs, vs', e1, e1', SqT.mono sr.gr.sub e2, SqT.mono sr.gr.sub e2', ?_, by rw [reps_length e3, reps_length e3']; exact hh, fun z => ?_, fun _ n hn => ?_⟩
          · obtain ⟨v, r, e, _⟩ := e3
            rw [e]; exact List.cons_ne_nil _ _
          · subst z
            have : ys = [] := by have := reps_length e3'; simpa using this.symm
            subst this
            exact q _ H g (Gle.refl _) sr ⟨p, vs, rfl, e2, by rw [List.append_nil]; exact e3⟩
          · obtain ⟨g', l, sr', rp⟩ := sr.alloc_tup hn (reps_append e3 e3')
            exact q _ _ g' l sr' rp
        · cases e
      | _ => cases e
  | _ => cases e
def strMul (_ : S) (a b : D) : Option D := none
end
end DL
end
section -- DD
set_option Elab.async false
set_option linter.all false
set_option maxRecDepth 100000
namespace DL
open PySem PySem.Spec L2

/-! ### a value as it stands -/
/-- the datum that a value is, or that is owned -/
def dd (s : S) : D → Option D
  | .loc i => match s.sl[i]? with
    | some (.own o) => some o.dat
    | some (.bor o) => some o.dat
    | some (.dat d) => some d
    | _ => none
  | .shr k => (s.mu[k]?).map Own.dat
  | d => some d
theorem OwnRep.dat {K : PySem.W.Frag} {g : Gh} {H : Hp} {a : Addr} {o : Own} (m : Sm g.G H) (h : OwnRep K g H a o) : rep K ⟨H, g.as⟩ o.dat (.ref a) := by
  have le : Gle g ⟨H, g.as⟩ := ⟨m, [], by simp⟩
  cases o with
  | lst ds => obtain ⟨vs, h1, h2⟩ := h; exact ⟨a, vs, rfl, h1, reps_mono le _ _ h2⟩
  | dct ds => obtain ⟨vs, h1, h2⟩ := h; exact ⟨a, vs, rfl, h1, repK_mono le _ _ h2⟩
  | obj C ds => obtain ⟨dx, vs, h1, h2⟩ := h; exact ⟨a, dx, vs, rfl, h1, repF_mono le _ _ h2⟩
theorem dd_ok {K : PySem.W.Frag} {Z0 : En} {g : Gh} {H : Hp} {s : S} {σ : St} {d e : D} {v : V} (sr : SR K Z0 s g σ H) (r : repL K g σ d v) (h : dd s d = some e) : rep K ⟨H, g.as⟩ e v := by
  have le : Gle g ⟨H, g.as⟩ := ⟨sr.gr.sub, [], by simp⟩
  cases d with
  | loc i =>
    simp only [dd] at h
    have r : σ[i]? = some (some v) := r
    cases q : s.sl[i]? with
    | none => rw [q] at h; cases h
    | some z =>
      rw [q] at h
      cases z with
      | non => cases h
      | dat d =>
        cases h
        obtain ⟨v', h1, h2⟩ := sr.dat i e q
        rw [r] at h1; cases h1
        exact rep_mono le _ _ h2
      | own o =>
        cases h
        obtain ⟨a, h1, h2, _⟩ := sr.own i o q
        rw [r] at h1; cases h1
        exact h2.dat sr.gr.sub
      | bor o =>
        cases h
        obtain ⟨a, h1, h2, _⟩ := sr.bor i o q
        rw [r] at h1; cases h1
        exact h2.dat sr.gr.sub
  | shr k =>
    simp only [dd] at h
    obtain ⟨a, e1, e2⟩ := r
    cases q : s.mu[k]? with
    | none => rw [q] at h; cases h
    | some o =>
      rw [q] at h
      cases h
      rw [e1]
      exact (sr.gr.st k o a q e2).1.dat sr.gr.sub
  | _ => cases h; exact rep_mono le _ _ r

/-- what a value is, its parts frozen -/
def RD (K : PySem.W.Frag) (g : Gh) (H : Hp) (e : D) (v : V) : Prop := match e with
  | .lst xs => ∃ a vs, v = .ref a ∧ H a = some (.lst vs) ∧ reps K g xs vs
  | .tup xs => ∃ a vs, v = .ref a ∧ SqT K g.G a vs ∧ reps K g xs vs
  | .dct xs => ∃ a vs, v = .ref a ∧ H a = some (.dK vs) ∧ repK K g xs vs
  | .obj C xs => ∃ a dx vs, v = .ref a ∧ H a = some (.ins C dx vs) ∧ repF K g xs vs
  | e => rep K g e v
theorem dd_rd {K : PySem.W.Frag} {Z0 : En} {g : Gh} {H : Hp} {s : S} {σ : St} {d e : D} {v : V} (sr : SR K Z0 s g σ H) (r : repL K g σ d v) (h : dd s d = some e) : RD K g H e v := by
  have dat : ∀ {e : D} {v : V}, rep K g e v → RD K g H e v := by
    intro e v r
    cases e with
    | lst ys => obtain ⟨a, vs, e1, e2, e3⟩ := r; exact ⟨a, vs, e1, sr.gr.sub _ _ e2, e3⟩
    | dct ys => obtain ⟨a, vs, e1, e2, e3⟩ := r; exact ⟨a, vs, e1, sr.gr.sub _ _ e2, e3⟩
    | obj C ys => obtain ⟨a, dx, vs, e1, e2, e3⟩ := r; exact ⟨a, dx, vs, e1, sr.gr.sub _ _ e2, e3⟩
    | _ => exact r
  have own : ∀ {o : Own} {a : Addr}, OwnRep K g H a o → RD K g H o.dat (.ref a) := by
    intro o a h
    cases o with
    | lst ys => obtain ⟨vs, e2, e3⟩ := h; exact ⟨a, vs, rfl, e2, e3⟩
    | dct ys => obtain ⟨vs, e2, e3⟩ := h; exact ⟨a, vs, rfl, e2, e3⟩
    | obj C ys => obtain ⟨dx, vs, e2, e3⟩ := h; exact ⟨a, dx, vs, rfl, e2, e3⟩
  cases d with
  | loc i =>
    simp only [dd] at h
    have r : σ[i]? = some (some v) := r
    cases q : s.sl[i]? with
    | none => rw [q] at h; cases h
    | some z =>
      rw [q] at h
      cases z with
      | non => cases h
      | dat d =>
        cases h
        obtain ⟨v', h1, h2⟩ := sr.dat i e q
        rw [r] at h1; cases h1
        exact dat h2
      | own o =>
        cases h
        obtain ⟨a, h1, h2, _⟩ := sr.own i o q
        rw [r] at h1; cases h1
        exact own h2
      | bor o =>
        cases h
        obtain ⟨a, h1, h2, _⟩ := sr.bor i o q
        rw [r] at h1; cases h1
        exact own h2
  | shr k =>
    simp only [dd] at h
    obtain ⟨a, e1, e2⟩ := r
    cases q : s.mu[k]? with
    | none => rw [q] at h; cases h
    | some o =>
      rw [q] at h
      cases h
      rw [e1]
      exact own (sr.gr.st k o a q e2).1
  | _ => cases h; exact dat r

/-! ### equality -/
mutual
def toPy : D → PyData
  | .non => .none
  | .bl b => .bool b
  | .int i => .int i
  | .str x => .str (sx x)
  | .lst xs => .list (toPys xs)
  | .tup xs => .tuple (toPys xs)
  | _ => .none
def toPys : List D → List PyData
  | [] => []
  | d :: ds => toPy d :: toPys ds
end
mutual
def okPy : D → Nat → Bool
  | .non, _ => true
  | .bl _, _ => true
  | .int _, _ => true
  | .str x, _ => x.all (· < 0x110000)
  | .lst xs, n + 1 => okPys xs n
  | .tup xs, n + 1 => okPys xs n
  | _, _ => false
def okPys : List D → Nat → Bool
  | [], _ => true
  | d :: ds, n => okPy d n && okPys ds n
end
mutual
theorem okPy_shape : ∀ (d : D) (n : Nat), okPy d n = true → (toPy d).canLay0 = true ∧ (toPy d).depth ≤ n
  | .non, n, _ => ⟨rfl, Nat.zero_le _⟩
  | .bl _, n, _ => ⟨rfl, Nat.zero_le _⟩
  | .int _, n, _ => ⟨rfl, Nat.zero_le _⟩
  | .str x, n, h => by
    refine ⟨?_, Nat.zero_le _⟩
    show PyData.strOk (sx x) = true
    unfold PyData.strOk
    rw [← Array.all_toList]
    simpa [okPy] using h
  | .lst xs, n + 1, h => by
    obtain ⟨h1, h2⟩ := okPys_shape xs n (by simpa [okPy] using h)
    exact ⟨h1, Nat.succ_le_succ h2⟩
  | .tup xs, n + 1, h => by
    obtain ⟨h1, h2⟩ := okPys_shape xs n (by simpa [okPy] using h)
    exact ⟨h1, Nat.succ_le_succ h2⟩
  | .lst _, 0, h => by simp [okPy] at h
  | .tup _, 0, h => by simp [okPy] at h
  | .obj _ _, _, h => by simp [okPy] at h
  | .dct _, _, h => by simp [okPy] at h
  | .fn _, _, h => by simp [okPy] at h
  | .ty _, _, h => by simp [okPy] at h
  | .loc _, _, h => by simp [okPy] at h
  | .shr _, _, h => by simp [okPy] at h
  | .scr _, _, h => by simp [okPy] at h
theorem okPys_shape : ∀ (ds : List D) (n : Nat), okPys ds n = true → PyData.canLayAll0 (toPys ds) = true ∧ PyData.depthAll (toPys ds) ≤ n
  | [], n, _ => ⟨rfl, Nat.zero_le _⟩
  | d :: ds, n, h => by
    simp only [okPys, Bool.and_eq_true] at h
    obtain ⟨h1, h2⟩ := okPy_shape d n h.1
    obtain ⟨k1, k2⟩ := okPys_shape ds n h.2
    refine ⟨?_, ?_⟩
    · show (PyData.canLay0 (toPy d) && PyData.canLayAll0 (toPys ds)) = true
      rw [h1, k1]; rfl
    · exact Nat.max_le.mpr ⟨h2, k2⟩
end
mutual
theorem okPy_mono : ∀ (d : D) (n m : Nat), n ≤ m → okPy d n = true → okPy d m = true
  | .non, _, _, _, _ => rfl
  | .bl _, _, _, _, _ => rfl
  | .int _, _, _, _, _ => rfl
  | .str _, _, _, _, h => by simpa [okPy] using h
  | .lst xs, n + 1, m + 1, l, h => by
    simp only [okPy] at h ⊢
    exact okPys_mono xs n m (by omega) h
  | .tup xs, n + 1, m + 1, l, h => by
    simp only [okPy] at h ⊢
    exact okPys_mono xs n m (by omega) h
  | .lst _, 0, _, _, h => by simp [okPy] at h
  | .tup _, 0, _, _, h => by simp [okPy] at h
  | .lst _, _ + 1, 0, l, _ => by omega
  | .tup _, _ + 1, 0, l, _ => by omega
  | .obj _ _, _, _, _, h => by simp [okPy] at h
  | .dct _, _, _, _, h => by simp [okPy] at h
  | .fn _, _, _, _, h => by simp [okPy] at h
  | .ty _, _, _, _, h => by simp [okPy] at h
  | .loc _, _, _, _, h => by simp [okPy] at h
  | .shr _, _, _, _, h => by simp [okPy] at h
  | .scr _, _, _, _, h => by simp [okPy] at h
theorem okPys_mono : ∀ (ds : List D) (n m : Nat), n ≤ m → okPys ds n = true → okPys ds m = true
  | [], _, _, _, _ => rfl
  | d :: ds, n, m, l, h => by
    simp only [okPys, Bool.and_eq_true] at h ⊢
    exact ⟨okPy_mono d n m l h.1, okPys_mono ds n m l h.2⟩
end
theorem okPy_shaped {d : D} (h : okPy d 60 = true) : SeqAt.shaped (toPy d) = true := by
  obtain ⟨h1, h2⟩ := okPy_shape d 60 h
  unfold SeqAt.shaped
  rw [h1, Bool.true_and]
  exact decide_eq_true (by omega)
section
variable {K : PySem.W.Frag} {g : Gh}
mutual
theorem rep_dp : ∀ (d : D) (n : Nat) (v : V), okPy d n = true → rep K g d v → Dp K g.G v (toPy d)
  | .non, _, _, _, h => by cases h; exact .non
  | .bl _, _, _, _, h => by cases h; exact .bl _
  | .int _, _, _, _, h => by cases h; exact .int _
  | .str _, _, _, _, h => by cases h; exact .str _
  | .lst xs, n + 1, v, o, h => by
    obtain ⟨a, vs, rfl, h1, h2⟩ := h
    exact .lst (SqL.of h1) (reps_dp xs n vs (by simpa [okPy] using o) h2)
  | .tup xs, n + 1, v, o, h => by
    obtain ⟨a, vs, rfl, h1, h2⟩ := h
    exact .tup h1 (reps_dp xs n vs (by simpa [okPy] using o) h2)
  | .lst _, 0, _, h, _ => by simp [okPy] at h
  | .tup _, 0, _, h, _ => by simp [okPy] at h
  | .obj _ _, _, _, h, _ => by simp [okPy] at h
  | .dct _, _, _, h, _ => by simp [okPy] at h
  | .fn _, _, _, h, _ => by simp [okPy] at h
  | .ty _, _, _, h, _ => by simp [okPy] at h
  | .loc _, _, _, h, _ => by simp [okPy] at h
  | .shr _, _, _, h, _ => by simp [okPy] at h
  | .scr _, _, _, h, _ => by simp [okPy] at h
theorem reps_dp : ∀ (ds : List D) (n : Nat) (vs : List V), okPys ds n = true → reps K g ds vs → DpAll K g.G vs (toPys ds)
  | [], _, _, _, h => by cases h; exact .nil
  | d :: ds, n, vs, o, h => by
    simp only [okPys, Bool.and_eq_true] at o
    obtain ⟨v, r, rfl, h1, h2⟩ := h
    exact .cons (rep_dp d n v o.1 h1) (reps_dp ds n r o.2 h2)
end
end
/-- data that are compared as they stand -/
def scD : D → D → Option Bool
  | .non, .non => some true
  | .non, .int _ => some false | .int _, .non => some false | .non, .bl _ => some false | .bl _, .non => some false | .non, .str _ => some false | .str _, .non => some false
  | .int i, .int j => some (decide (i = j))
  | .bl i, .bl j => some (decide (i = j))
  | .str x, .str y => some (decide (x = y))
  | .int _, .str _ => some false | .str _, .int _ => some false | .bl _, .str _ => some false | .str _, .bl _ => some false
  | _, _ => none
def deq (x y : D) : Bool := PyData.eqv (toPy x) (toPy y)
def deepD (neg : Bool) (s : S) (a b : D) : Option D := match dd s a, dd s b with
  | some x, some y => if okPy x 60 = true ∧ okPy y 60 = true then some (.bl (if neg then !deq x y else deq x y)) else none
  | _, _ => none
def eqD (s : S) (a b : D) : Option D := match scD a b with
  | some k => some (.bl k)
  | none => deepD false s a b
def neD (s : S) (a b : D) : Option D := match scD a b with
  | some k => some (.bl (!k))
  | none => deepD true s a b
theorem scD_ok {K : PySem.W.Frag} {g : Gh} {σ : St} {a b : D} {x y : V} {k : Bool} (e : scD a b = some k) (ra : repL K g σ a x) (rb : repL K g σ b y) : scal x y = true ∧ decide (x = y) = k := by
  cases a <;> cases b <;> first
    | (simp only [scD, Option.some.injEq] at e; subst e; cases ra; cases rb; refine ⟨rfl, ?_⟩
       first
        | rfl
        | (simp; done)
        | (rename_i p q; by_cases h : p = q
           · subst h; simp
           · have : ¬ (sx p = sx q) := fun z => h (sx_inj z)
             simp [h, this]))
    | (cases e; done)
section
variable {X : Cx}
theorem op_eqS (hu : X.A.units + 65 < cLine) : OpR X (compareOp .Eq) (fun x y H Q => rEq x y H Q ∨ rEqD X.K x y H Q) := OpR.or op_eq (op_eqD (by omega))
theorem op_neS (hu : X.A.units + 65 < cLine) : OpR X (compareOp .NotEq) (fun x y H Q => rNe x y H Q ∨ rNeD X.K x y H Q) := OpR.or op_ne (op_neD (by omega))
end
theorem od_eq {K : PySem.W.Frag} : OpD K (fun x y H Q => rEq x y H Q ∨ rEqD K x y H Q) eqD := by
  intro Z s g σ H a b x y d Q sr ra rb e q
  unfold eqD at e
  cases h : scD a b with
  | some k =>
    rw [h] at e
    cases e
    obtain ⟨h1, h2⟩ := scD_ok h ra rb
    exact .inl ⟨h1, q _ H g (Gle.refl _) sr (by rw [h2]; rfl)⟩
  | none =>
    rw [h] at e
    simp only [deepD] at e
    cases ha : dd s a with
    | none => rw [ha] at e; cases e
    | some x1 =>
      cases hb : dd s b with
      | none => rw [ha, hb] at e; cases e
      | some y1 =>
        rw [ha, hb] at e
        simp only at e
        split at e
        · rename_i ok
          cases e
          exact .inr ⟨toPy x1, toPy y1, rep_dp (g := ⟨H, g.as⟩) x1 60 x ok.1 (dd_ok sr ra ha), rep_dp (g := ⟨H, g.as⟩) y1 60 y ok.2 (dd_ok sr rb hb), okPy_shaped ok.1, okPy_shaped ok.2, q _ H g (Gle.refl _) sr rfl⟩
        · cases e
theorem od_ne {K : PySem.W.Frag} : OpD K (fun x y H Q => rNe x y H Q ∨ rNeD K x y H Q) neD := by
  intro Z s g σ H a b x y d Q sr ra rb e q
  unfold neD at e
  cases h : scD a b with
  | some k =>
    rw [h] at e
    cases e
    obtain ⟨h1, h2⟩ := scD_ok h ra rb
    exact .inl ⟨h1, q _ H g (Gle.refl _) sr (by rw [h2]; rfl)⟩
  | none =>
    rw [h] at e
    simp only [deepD] at e
    cases ha : dd s a with
    | none => rw [ha] at e; cases e
    | some x1 =>
      cases hb : dd s b with
      | none => rw [ha, hb] at e; cases e
      | some y1 =>
        rw [ha, hb] at e
        simp only at e
        split at e
        · rename_i ok
          cases e
          exact .inr ⟨toPy x1, toPy y1, rep_dp (g := ⟨H, g.as⟩) x1 60 x ok.1 (dd_ok sr ra ha), rep_dp (g := ⟨H, g.as⟩) y1 60 y ok.2 (dd_ok sr rb hb), okPy_shaped ok.1, okPy_shaped ok.2, q _ H g (Gle.refl _) sr rfl⟩
        · cases e

/-! ### in -/
def eqF : D → D → Bool
  | .non, .non => true
  | .bl a, .bl b => a == b
  | .bl a, .int b => (if a then 1 else 0) == b
  | .int a, .bl b => a == (if b then 1 else 0)
  | .int a, .int b => a == b
  | .str a, .str b => a == b
  | _, _ => false
def flatD : D → Bool
  | .non => true | .bl _ => true | .int _ => true | .str _ => true | _ => false
def rdS (s : S) (d : D) : Option (List D) := match dd s d with | some (.lst xs) => some xs | some (.tup xs) => some xs | _ => none
def subIn (x y : List Nat) : Bool := !(Builtin.Str.occurrences (sx y) (sx x) 0 y.length 1).isEmpty
def inD (neg : Bool) (s : S) (a b : D) : Option D := match a, b with
  | .str x, .str y => some (.bl (if neg then !subIn x y else subIn x y))
  | _, _ => match rdS s b with
    | some ys => if flatD a = true ∧ ys.all flatD = true then some (.bl (if neg then !ys.any (fun y => eqF y a) else ys.any fun y => eqF y a)) else
      match dd s a, dd s b with
      | some x, some (.lst zs) => if okPy x 58 = true ∧ okPy (.lst zs) 60 = true then some (.bl (if neg then !zs.any (fun y => deq y x) else zs.any fun y => deq y x)) else none
      | _, _ => none
    | none => none
theorem eqF_ok {K : PySem.W.Frag} {g : Gh} {a b : D} {x y : V} (fa : flatD a = true) (fb : flatD b = true) (ra : rep K g a x) (rb : rep K g b y) : eqV x y = eqF a b := by
  cases a <;> cases b <;> first
    | (cases fa; done)
    | (cases fb; done)
    | (cases ra; cases rb; first
        | rfl
        | (rename_i p q; show (sx p == sx q) = (p == q)
           by_cases h : p = q
           · subst h; simp
           · have : ¬ (sx p = sx q) := fun z => h (sx_inj z)
             rw [beq_eq_false_iff_ne.mpr h, beq_eq_false_iff_ne.mpr this]))
theorem flatD_ok {K : PySem.W.Frag} {g : Gh} {a : D} {x : V} (fa : flatD a = true) (ra : rep K g a x) : flatV x = true := by
  cases a <;> first
    | (cases fa; done)
    | (cases ra; rfl)
theorem flats_ok {K : PySem.W.Frag} {g : Gh} {a : D} {x : V} (fa : flatD a = true) (ra : rep K g a x) : ∀ {ys : List D} {vs : List V}, ys.all flatD = true → reps K g ys vs → vs.all flatV = true ∧ inV x vs = ys.any fun y => eqF y a
  | [], _, _, h => by cases h; exact ⟨rfl, rfl⟩
  | y :: ys, vs, f, h => by
    simp only [List.all_cons, Bool.and_eq_true] at f
    obtain ⟨v, r, rfl, h1, h2⟩ := h
    obtain ⟨k1, k2⟩ := flats_ok fa ra f.2 h2
    refine ⟨by simp only [List.all_cons, k1, flatD_ok f.1 h1, Bool.and_self], ?_⟩
    show (eqV v x || inV x r) = _
    rw [k2, eqF_ok f.1 fa h1 ra, List.any_cons]
theorem toPys_map : ∀ ds : List D, toPys ds = ds.map toPy
  | [] => rfl
  | d :: ds => by rw [toPys, toPys_map ds]; rfl
theorem rdS_ok {K : PySem.W.Frag} {Z0 : En} {g : Gh} {H : Hp} {s : S} {σ : St} {d : D} {xs : List D} {v : V} (sr : SR K Z0 s g σ H) (r : repL K g σ d v) (h : rdS s d = some xs) :
    ∃ a vs, v = .ref a ∧ (SqL K H a vs ∨ SqT K H a vs) ∧ reps K ⟨H, g.as⟩ xs vs := by
  unfold rdS at h
  cases q : dd s d with
  | none => rw [q] at h; cases h
  | some e =>
    rw [q] at h
    have z := dd_ok sr r q
    cases e with
    | lst ys => cases h; obtain ⟨a, vs, e1, e2, e3⟩ := z; exact ⟨a, vs, e1, .inl (SqL.of e2), e3⟩
    | tup ys => cases h; obtain ⟨a, vs, e1, e2, e3⟩ := z; exact ⟨a, vs, e1, .inr e2, e3⟩
    | _ => cases h
section
variable {X : Cx}
def rInS (K : PySem.W.Frag) (neg : Bool) : R2 := fun x y H Q =>
  (∃ i j, x = .str i ∧ y = .str j ∧ Q (.bl (if neg then !(!(Builtin.Str.occurrences j i 0 j.length 1).isEmpty) else !(Builtin.Str.occurrences j i 0 j.length 1).isEmpty)) H) ∨
  rIn K neg x y H Q ∨ (∃ d ds, Dp K H x d ∧ Dp K H y (.list ds) ∧ SeqAt.shaped d = true ∧ SeqAt.shaped (.list ds) = true ∧ Q (.bl (if neg then !ds.any (fun z => PyData.eqv z d) else ds.any fun z => PyData.eqv z d)) H)
theorem op_inS (hu : X.A.units + 65 < cLine) : OpR X (compareOp .In) (rInS X.K false) := OpR.or op_in_str (OpR.or op_in_seq (op_inD hu))
theorem op_ninS (hu : X.A.units + 65 < cLine) : OpR X (compareOp .NotIn) (rInS X.K true) := OpR.or op_notin_str (OpR.or op_notIn_seq (op_notInD hu))
end
theorem any_toPy (x : D) : ∀ ys : List D, ((toPys ys).any fun z => PyData.eqv z (toPy x)) = ys.any fun y => deq y x
  | [] => rfl
  | y :: ys => by rw [toPys, List.any_cons, List.any_cons, any_toPy x ys]; rfl
theorem od_in {K : PySem.W.Frag} {neg : Bool} : OpD K (rInS K neg) (inD neg) := by
  intro Z s g σ H a b x y d Q sr ra rb e q
  have seq : ∀ {d}, (match rdS s b with
    | some ys => if flatD a = true ∧ ys.all flatD = true then some (D.bl (if neg then !ys.any (fun y => eqF y a) else ys.any fun y => eqF y a)) else
      match dd s a, dd s b with
      | some x, some (.lst zs) => if okPy x 58 = true ∧ okPy (.lst zs) 60 = true then some (D.bl (if neg then !zs.any (fun y => deq y x) else zs.any fun y => deq y x)) else none
      | _, _ => none
    | none => none) = some d → (∀ v H' g', Gle g g' → SRz K Z s g' σ H' → rep K g' d v → Q v H') → rInS K neg x y H Q := by
    intro d e q
    cases hb : rdS s b with
    | none => rw [hb] at e; cases e
    | some ys =>
      rw [hb] at e
      obtain ⟨p, vs, e1, e2, e3⟩ := rdS_ok sr rb hb
      simp only at e
      split at e
      · rename_i fl
        cases e
        have ra' : rep K ⟨H, g.as⟩ a x := by
          have := dd_ok sr ra (e := a) (by cases a <;> first | rfl | (cases fl.1; done))
          exact this
        obtain ⟨k1, k2⟩ := flats_ok fl.1 ra' fl.2 e3
        exact .inr (.inl ⟨p, vs, e1, e2, flatD_ok fl.1 ra', k1, by rw [k2]; exact q _ H g (Gle.refl _) sr (by cases neg <;> rfl)⟩)
      · cases hx : dd s a with
        | none => rw [hx] at e; cases e
        | some x1 =>
          cases hy : dd s b with
          | none => rw [hx, hy] at e; cases e
          | some y1 =>
            rw [hx, hy] at e
            cases y1 with
            | lst zs =>
              simp only at e
              split at e
              · rename_i ok
                cases e
                have o1 : okPy x1 60 = true := by
                  obtain ⟨h1, h2⟩ := ok
                  exact (okPy_mono x1 58 60 (by omega) h1)
                refine .inr (.inr ⟨toPy x1, toPys zs, rep_dp (g := ⟨H, g.as⟩) x1 60 x o1 (dd_ok sr ra hx), rep_dp (g := ⟨H, g.as⟩) (.lst zs) 60 y ok.2 (dd_ok sr rb hy), okPy_shaped o1, okPy_shaped ok.2, ?_⟩)
                rw [any_toPy]
                exact q _ H g (Gle.refl _) sr (by cases neg <;> rfl)
              · cases e
            | _ => cases e
  unfold inD at e
  cases a with
  | str x1 =>
    cases b with
    | str y1 =>
      cases e
      exact .inl ⟨sx x1, sx y1, ra, rb, q _ H g (Gle.refl _) sr (by unfold subIn; rw [sx_length]; cases neg <;> rfl)⟩
    | _ => exact seq e q
  | _ => exact seq e q
end DL
end
section -- DE
set_option Elab.async false
set_option linter.all false
set_option maxRecDepth 100000
namespace DL
open PySem PySem.Spec L2

/-! ### tests -/
def truthD (s : S) (d : D) : Option Bool := match dd s d with
  | some .non => some false
  | some (.bl b) => some b
  | some (.int i) => some (i != 0)
  | some (.str x) => if x.length ≤ sizeLine then some ((x.length : Int) != 0) else none
  | some (.lst xs) => some (!xs.isEmpty)
  | some (.tup xs) => some (!xs.isEmpty)
  | some (.dct xs) => some (!xs.isEmpty)
  | _ => none
def tstD (m : M D) : M Bool := mb m fun d => mopt fun s => truthD s d
section
variable {X : Cx} {Z : En} {W : WX} {k : Nat} {a b c e : Expr} {m m1 m2 m3 : M D} {t1 t2 : M Bool} {rest : List Expr} {pos : Pos} {K : PySem.W.Frag}
theorem empty_of {xs : List D} {vs : List V} {g : Gh} (h : reps K g xs vs) : vs.isEmpty = xs.isEmpty := by
  have := reps_length h
  cases xs <;> cases vs <;> first | rfl | (simp at this)
theorem empty_ofK {xs : List (Key × D)} {vs : List (Key × V)} {g : Gh} (h : repK K g xs vs) : vs.isEmpty = xs.isEmpty := by
  have := repK_length h
  cases xs <;> cases vs <;> first | rfl | (simp at this)
theorem truthD_ok {Z0 : En} {g : Gh} {H : Hp} {s : S} {σ : St} {d : D} {v : V} {b : Bool} (sr : SR K Z0 s g σ H) (r : repL K g σ d v) (h : truthD s d = some b) : TruV K v H b := by
  unfold truthD at h
  cases q : dd s d with
  | none => rw [q] at h; cases h
  | some e =>
    rw [q] at h
    have z := dd_ok sr r q
    cases e with
    | non => cases h; cases z; rfl
    | bl _ => cases h; cases z; rfl
    | int _ => cases h; cases z; rfl
    | str x =>
      simp only at h
      split at h
      · cases h; cases z; exact ⟨by assumption, rfl⟩
      · cases h
    | lst xs =>
      cases h
      obtain ⟨a, vs, rfl, h1, h2⟩ := z
      exact .inl ⟨vs, SqL.of h1, by rw [empty_of h2]⟩
    | tup xs =>
      cases h
      obtain ⟨a, vs, rfl, h1, h2⟩ := z
      exact .inr (.inl ⟨vs, h1, by rw [empty_of h2]⟩)
    | dct xs =>
      cases h
      obtain ⟨a, vs, rfl, h1, h2⟩ := z
      exact .inr (.inr ⟨vs, h1, by rw [empty_ofK h2]⟩)
    | _ => cases h
theorem t_val (ha : PE X a (tD X.K Z W m)) (he : ∀ whole, isTrue a X.env whole = (do let v ← whole; standAt a.pos; holding [v] (truthy v)) := by intro _; rfl) : PT X a (tT X.K Z W (tstD m)) :=
  PT.weak (pt_truth ha he) fun σ H Q ⟨s, g, sr, e⟩ => goD isB sr e fun d1 s1 v1 H1 g1 l1 sr1 r1 e1 => by
    obtain ⟨b, hb, q⟩ := mopt_endE isB e1
    exact ⟨b, truthD_ok sr1 r1 hb, q H1 g1 (Gle.refl _) sr1⟩
def andT (a b : M Bool) : M Bool := mb a fun c => if c = true then b else mret false
def orT (a b : M Bool) : M Bool := mb a fun c => if c = true then mret true else b
def notT (a : M Bool) : M Bool := mb a fun c => mret (!c)
theorem w_and1 (ha : PT X a (tT X.K Z W t1)) : PW X (.BoolOp .And [a] pos) (tT X.K Z W t1) := pw_and1 ha
theorem w_or1 (ha : PT X a (tT X.K Z W t1)) : PW X (.BoolOp .Or [a] pos) (tT X.K Z W t1) := pw_or1 ha
theorem PW.weak {t t' : TT} (h : PW X e t) (hw : ∀ σ H Q, t' σ H Q → t σ H Q) : PW X e t' := ⟨fun wh pins s σ H Q I q => h.run wh pins s σ H Q I (hw σ H Q q)⟩
theorem w_and (ha : PT X a (tT X.K Z W t1)) (hb : PW X (.BoolOp .And (b :: rest) pos) (tT X.K Z W t2)) : PW X (.BoolOp .And (a :: b :: rest) pos) (tT X.K Z W (andT t1 t2)) :=
  PW.weak (pw_and ha hb) fun σ H Q ⟨s, g, sr, e⟩ => goT isB sr e fun d1 s1 H1 g1 l1 sr1 e1 => by
    cases d1 with
    | true => rw [if_pos rfl] at e1 ⊢; exact ⟨s1, g1, sr1, e1⟩
    | false => rw [if_neg Bool.false_ne_true] at e1 ⊢; exact e1 H1 g1 (Gle.refl _) sr1
theorem w_or (ha : PT X a (tT X.K Z W t1)) (hb : PW X (.BoolOp .Or (b :: rest) pos) (tT X.K Z W t2)) : PW X (.BoolOp .Or (a :: b :: rest) pos) (tT X.K Z W (orT t1 t2)) :=
  PW.weak (pw_or ha hb) fun σ H Q ⟨s, g, sr, e⟩ => goT isB sr e fun d1 s1 H1 g1 l1 sr1 e1 => by
    cases d1 with
    | false => rw [if_neg Bool.false_ne_true] at e1 ⊢; exact ⟨s1, g1, sr1, e1⟩
    | true => rw [if_pos rfl] at e1 ⊢; exact e1 H1 g1 (Gle.refl _) sr1
theorem t_not (ha : PT X a (tT X.K Z W t1)) : PT X (.UnaryOp .Not a pos) (tT X.K Z W (notT t1)) :=
  PT.weak (pt_not ha) fun σ H Q ⟨s, g, sr, e⟩ => goT isB sr e fun d1 s1 H1 g1 l1 sr1 e1 => e1 H1 g1 (Gle.refl _) sr1
/-- and, or of bools as values -/
def andV (a b : M D) : M D := mb a fun x => mb (mopt fun _ => toB x) fun c => if c = true then b else mret (.bl false)
def orV (a b : M D) : M D := mb a fun x => mb (mopt fun _ => toB x) fun c => if c = true then mret (.bl true) else b
def notV (a : M D) : M D := mb a fun x => mb (mopt fun _ => toB x) fun c => mret (.bl (!c))
theorem toB_ok {g : Gh} {σ : St} {d : D} {v : V} {c : Bool} (r : repL K g σ d v) (h : toB d = some c) : v = .bl c := by
  cases d with
  | bl b => cases h; exact r
  | _ => cases h
theorem d_one {op : BoolOp} (ha : PE X a (tD X.K Z W m)) : PE X (.BoolOp op [a] pos) (tD X.K Z W m) := pe_one ha
theorem d_and (ha : PE X a (tD X.K Z W m1)) (hb : PE X (.BoolOp .And (b :: rest) pos) (tD X.K Z W m2)) : PE X (.BoolOp .And (a :: b :: rest) pos) (tD X.K Z W (andV m1 m2)) :=
  PE.weak (pe_and ha hb) fun σ H Q ⟨s, g, sr, e⟩ => goD isE sr e fun d1 s1 v1 H1 g1 l1 sr1 r1 e1 => by
    obtain ⟨c, hc, q⟩ := mopt_end isE e1
    refine ⟨c, toB_ok r1 hc, ?_⟩
    cases c with
    | true => rw [if_pos rfl] at q ⊢; exact ⟨s1, g1, sr1, q⟩
    | false => rw [if_neg Bool.false_ne_true] at q ⊢; exact q _ H1 g1 (Gle.refl _) sr1 rfl
theorem d_or (ha : PE X a (tD X.K Z W m1)) (hb : PE X (.BoolOp .Or (b :: rest) pos) (tD X.K Z W m2)) : PE X (.BoolOp .Or (a :: b :: rest) pos) (tD X.K Z W (orV m1 m2)) :=
  PE.weak (pe_or ha hb) fun σ H Q ⟨s, g, sr, e⟩ => goD isE sr e fun d1 s1 v1 H1 g1 l1 sr1 r1 e1 => by
    obtain ⟨c, hc, q⟩ := mopt_end isE e1
    refine ⟨c, toB_ok r1 hc, ?_⟩
    cases c with
    | false => rw [if_neg Bool.false_ne_true] at q ⊢; exact ⟨s1, g1, sr1, q⟩
    | true => rw [if_pos rfl] at q ⊢; exact q _ H1 g1 (Gle.refl _) sr1 rfl
theorem d_not (ha : PE X a (tD X.K Z W m)) : PE X (.UnaryOp .Not a pos) (tD X.K Z W (notV m)) :=
  PE.weak (pe_not ha) fun σ H Q ⟨s, g, sr, e⟩ => goD isE sr e fun d1 s1 v1 H1 g1 l1 sr1 r1 e1 => by
    obtain ⟨c, hc, q⟩ := mopt_end isE e1
    exact ⟨c, toB_ok r1 hc, q _ H1 g1 (Gle.refl _) sr1 rfl⟩
def ifD (t : M Bool) (a b : M D) : M D := mb t fun c => if c = true then a else b
theorem d_if (hc : PT X c (tT X.K Z W t1)) (ha : PE X a (tD X.K Z W m1)) (hb : PE X b (tD X.K Z W m2)) : PE X (.IfExp c a b pos) (tD X.K Z W (ifD t1 m1 m2)) :=
  PE.weak (pe_ifExp hc ha hb) fun σ H Q ⟨s, g, sr, e⟩ => goT isE sr e fun d1 s1 H1 g1 l1 sr1 e1 => by
    cases d1 with
    | true => rw [if_pos rfl] at e1 ⊢; exact ⟨s1, g1, sr1, e1⟩
    | false => rw [if_neg Bool.false_ne_true] at e1 ⊢; exact ⟨s1, g1, sr1, e1⟩
/-! ### is -/
def isN (neg : Bool) (_ : S) (a b : D) : Option D := match b with
  | .non => some (.bl (if neg then (match a with | .non => false | _ => true) else (match a with | .non => true | _ => false)))
  | _ => none
theorem rep_non {g : Gh} {σ : St} {d : D} {v : V} (r : repL K g σ d v) (ho : ∀ i, d ≠ .loc i) : decide (v = .non) = (match d with | .non => true | _ => false) := by
  cases d with
  | loc i => exact absurd rfl (ho i)
  | non => cases r; rfl
  | bl _ => cases r; rfl
  | int _ => cases r; rfl
  | str _ => cases r; rfl
  | fn _ => cases r; rfl
  | ty _ => cases r; rfl
  | lst _ => obtain ⟨a, vs, rfl, _⟩ := r; rfl
  | tup _ => obtain ⟨a, vs, rfl, _⟩ := r; rfl
  | obj _ _ => obtain ⟨a, dx, vs, rfl, _⟩ := r; rfl
  | dct _ => obtain ⟨a, vs, rfl, _⟩ := r; rfl
  | shr _ => obtain ⟨a, rfl, _⟩ := r; rfl
  | scr _ => obtain ⟨a, rfl, _⟩ := r; rfl
def notLoc : D → Bool
  | .loc _ => false
  | _ => true
def isND (neg : Bool) (s : S) (a b : D) : Option D := if notLoc a = true then isN neg s a b else none
theorem od_isN {neg : Bool} : OpD K (fun x y H Q => y = .non ∧ Q (.bl (if neg then !decide (x = .non) else decide (x = .non))) H) (isND neg) := by
  intro Z s g σ H a b x y d Q sr ra rb e q
  unfold isND at e
  split at e
  · rename_i nl
    cases b with
    | non =>
      cases e
      cases rb
      refine ⟨rfl, q _ H g (Gle.refl _) sr ?_⟩
      rw [rep_non ra (fun i h => by subst h; cases nl)]
      cases neg <;> cases a <;> rfl
    | _ => cases e
  · cases e
def isBD (neg : Bool) (_ : S) (a b : D) : Option D := match a, b with
  | .bl x, .bl y => some (.bl (if neg then !decide (x = y) else decide (x = y)))
  | _, _ => none
theorem od_isB : OpD K rIsB (isBD false) := by
  intro Z s g σ H a b x y d Q sr ra rb e q
  cases a <;> first
    | (cases e; done)
    | (cases b <;> first | (cases e; done) | (cases e; exact ⟨_, _, ra, rb, q _ H g (Gle.refl _) sr rfl⟩))
theorem od_notB : OpD K rNotB (isBD true) := by
  intro Z s g σ H a b x y d Q sr ra rb e q
  cases a <;> first
    | (cases e; done)
    | (cases b <;> first | (cases e; done) | (cases e; exact ⟨_, _, ra, rb, q _ H g (Gle.refl _) sr rfl⟩))
end

/-! ### attributes -/
def fldD (C : Addr) (f : Str) (m : M D) : M D := mb m fun d => mopt fun s => match dd s d with
  | some (.obj C' fs) => if C' = C then fs.lookup f else none
  | _ => none
section
variable {X : Cx} {Z : En} {W : WX} {k : Nat} {e : Expr} {m : M D} {f : Str} {C : Addr} {pos : Pos}
/-- a field's value behind a read: it is a datum of the frozen part -/
theorem d_fld (he : PE X e (tD X.K Z W m)) (cl : Cls X.K C) (n : NoAttr X.K C f) (hb : attributeBase e f X.env (eval e X.env) = eval e X.env := by rfl) : PE X (.Attribute e f pos) (tD X.K Z W (fldD C f m)) :=
  PE.weak (pe_fld he hb) fun σ H Q ⟨s, g, sr, e⟩ => goD isE sr e fun d1 s1 v1 H1 g1 l1 sr1 r1 e1 => by
    obtain ⟨d, hd, q⟩ := mopt_endE isE e1
    cases h : dd s1 d1 with
    | none => simp only [h] at hd; cases hd
    | some y =>
      simp only [h] at hd
      cases y with
      | obj C' fs =>
        simp only at hd
        split at hd
        · rename_i hC
          subst hC
          obtain ⟨a, dx, vs, e1, e2, e3⟩ := dd_rd sr1 r1 h
          obtain ⟨v, k1, k2⟩ := repF_lookup e3 hd
          exact ⟨a, C', dx, vs, v, e1, e2, cl, n, k1, q v H1 g1 (Gle.refl _) sr1 (repL_of k2)⟩
        · cases hd
      | _ => simp only at hd; cases hd
end

/-! ### subscripts -/
/-- the items of a list or a tuple that is read: data of the frozen part -/
theorem rdS_items {K : PySem.W.Frag} {Z0 : En} {g : Gh} {H : Hp} {s : S} {σ : St} {d : D} {xs : List D} {v : V} (sr : SR K Z0 s g σ H) (r : repL K g σ d v) (h : rdS s d = some xs) :
    ∃ a vs, v = .ref a ∧ (H a = some (.lst vs) ∨ SqT K H a vs) ∧ reps K g xs vs := by
  unfold rdS at h
  cases q : dd s d with
  | none => rw [q] at h; cases h
  | some e =>
    rw [q] at h
    have z := dd_rd sr r q
    cases e with
    | lst ys => cases h; obtain ⟨a, vs, e1, e2, e3⟩ := z; exact ⟨a, vs, e1, .inl e2, e3⟩
    | tup ys => cases h; obtain ⟨a, vs, e1, e2, e3⟩ := z; exact ⟨a, vs, e1, .inr (SqT.mono sr.gr.sub e2), e3⟩
    | _ => cases h
def atD (xs : List D) (i : Int) : Option D := (ixN xs.length i).bind fun j => xs[j]?
def ixD (s : S) (a b : D) : Option D := match a, b with
  | .str x, .int i => if x.length ≤ sizeLine then ((ixN x.length i).bind fun j => x[j]?).map fun c => .str [c] else none
  | a, .int i => match rdS s a with
    | some xs => atD xs i
    | none => none
  | _, _ => none
section
variable {X : Cx} {Z : En} {W : WX} {k : Nat} {a b : Expr} {m1 m2 : M D} {pos : Pos}
theorem at_ok {K : PySem.W.Frag} {g : Gh} {xs : List D} {vs : List V} {i : Int} {d : D} (r : reps K g xs vs) (h : atD xs i = some d) : ∃ v, atI vs i = some v ∧ rep K g d v := by
  unfold atD at h
  have hl := reps_length r
  cases q : ixN xs.length i with
  | none => rw [q] at h; cases h
  | some j =>
    rw [q] at h
    obtain ⟨v, h1, h2⟩ := reps_get r (by exact h)
    refine ⟨v, ?_, h2⟩
    unfold atI
    rw [hl, q]
    exact h1
theorem d_ix (ha : PE X a (tD X.K Z W m1)) (hb : PE X b (tD X.K Z W m2)) (hs : PlainIx b := by intro _ _; rfl) : PE X (.Subscript a b pos) (tD X.K Z W (binD ixD m1 m2)) :=
  PE.weak (pe_ix ix_seq ha hb hs) fun σ H Q ⟨s, g, sr, e⟩ => goD isE sr e fun d1 s1 v1 H1 g1 l1 sr1 r1 e1 => goD isE sr1 e1 fun d2 s2 v2 H2 g2 l2 sr2 r2 e2 => by
    obtain ⟨d, hd, q⟩ := mopt_endE isE e2
    have r1 := repL_mono l2 r1
    have seq : ∀ {i : Int}, (match rdS s2 d1 with | some xs => atD xs i | none => none) = some d → v2 = .int i → rIx X.K v1 v2 H2 Q := by
      intro i h e
      cases hr : rdS s2 d1 with
      | none => rw [hr] at h; cases h
      | some xs =>
        rw [hr] at h
        obtain ⟨p, vs, e1, e2, e3⟩ := rdS_items sr2 r1 hr
        obtain ⟨v, k1, k2⟩ := at_ok e3 h
        rcases e2 with e2 | e2
        · exact .inl ⟨p, vs, i, v, e1, e, SqL.of e2, k1, q v H2 g2 (Gle.refl _) sr2 (repL_of k2)⟩
        · exact .inr (.inl ⟨p, vs, i, v, e1, e, e2, k1, q v H2 g2 (Gle.refl _) sr2 (repL_of k2)⟩)
    cases d2 with
    | int i =>
      cases d1 with
      | str x =>
        simp only [ixD] at hd
        split at hd
        · rename_i hz
          cases hj : ((ixN x.length i).bind fun j => x[j]?) with
          | none => rw [hj] at hd; cases hd
          | some c =>
            rw [hj] at hd
            cases hd
            exact .inr (.inr ⟨sx x, i, c, r1, r2, hz, hj, q _ H2 g2 (Gle.refl _) sr2 rfl⟩)
        · cases hd
      | non => exact seq hd r2
      | bl _ => exact seq hd r2
      | int _ => exact seq hd r2
      | lst _ => exact seq hd r2
      | tup _ => exact seq hd r2
      | obj _ _ => exact seq hd r2
      | dct _ => exact seq hd r2
      | fn _ => exact seq hd r2
      | ty _ => exact seq hd r2
      | loc _ => exact seq hd r2
      | shr _ => exact seq hd r2
      | scr _ => exact seq hd r2
    | _ => cases d1 <;> cases hd
end
end DL
end
section -- DF
set_option Elab.async false
set_option linter.all false
set_option maxRecDepth 100000
namespace DL
open PySem PySem.Spec L2

/-! ### slices -/
def noP : M (Option Int) := mret none
def toI (d : D) : Option Int := match d with | .int i => some i | _ => none
def someP (m : M D) : M (Option Int) := mb m fun d => mopt fun _ => (toI d).map some
def cutD (xs : List D) (lo hi : Option Int) : List D := (xs.drop (HT.sIx xs.length 0 lo)).take (HT.sIx xs.length xs.length hi - HT.sIx xs.length 0 lo)
def cutN (xs : List Nat) (lo hi : Option Int) : List Nat := (xs.drop (HT.sIx xs.length 0 lo)).take (HT.sIx xs.length xs.length hi - HT.sIx xs.length 0 lo)
section
variable {X : Cx} {Z : En} {W : WX} {k : Nat} {a b e : Expr} {m m1 m2 : M D} {pos p2 : Pos} {K : PySem.W.Frag} {lo hi : Option Expr} {ml mh : M (Option Int)}
theorem o_none : PO X none (tT X.K Z W noP) := ⟨fun pins s σ H Q I ⟨s1, g1, sr, q⟩ => po_none.run pins s σ H Q I (q H g1 (Gle.refl _) sr)⟩
theorem toI_ok {g : Gh} {σ : St} {d : D} {v : V} {c : Int} (r : repL K g σ d v) (h : toI d = some c) : v = .int c := by
  cases d with
  | int b => cases h; exact r
  | _ => cases h
theorem o_some (he : PE X e (tD X.K Z W m)) : PO X (some e) (tT X.K Z W (someP m)) := ⟨fun pins s σ H Q I ⟨s1, g1, sr, q⟩ => (po_some he).run pins s σ H Q I (goD isB sr q fun d1 s1 v1 H1 g1 l1 sr1 r1 e1 => by
  obtain ⟨o, ho, q⟩ := mopt_endE isB e1
  cases hd : toI d1 with
  | none => rw [hd] at ho; cases ho
  | some i =>
    rw [hd] at ho
    cases ho
    exact ⟨i, toI_ok r1 hd, q H1 g1 (Gle.refl _) sr1⟩)⟩
/-- a slice's rule on data -/
def SlD (K : PySem.W.Frag) (r : V → Option Int → Option Int → Hp → VK → Prop) (f : S → D → Option Int → Option Int → Option D) : Prop :=
  ∀ {Z : En} {s : S} {g : Gh} {σ : St} {H : Hp} {a : D} {x : V} {lo hi : Option Int} {d : D} {Q : VK}, SRz K Z s g σ H → repL K g σ a x → f s a lo hi = some d →
    (∀ v H' g', Gle g g' → SRz K Z s g' σ H' → rep K g' d v → Q v H') → r x lo hi H Q
def slM (f : S → D → Option Int → Option Int → Option D) (m : M D) (ml mh : M (Option Int)) : M D := mb m fun d => mb ml fun l => mb mh fun h => mopt fun s => f s d l h
theorem d_slice {r : V → Option Int → Option Int → Hp → VK → Prop} {f : S → D → Option Int → Option Int → Option D} (hr : SlR X r) (o : SlD X.K r f) (he : PE X e (tD X.K Z W m)) (hl : PO X lo (tT X.K Z W ml)) (hu : PO X hi (tT X.K Z W mh)) : PE X (.Subscript e (.Slice lo hi none p2) pos) (tD X.K Z W (slM f m ml mh)) :=
  PE.weak (pe_slice hr he hl hu) fun σ H Q ⟨s, g, sr, e⟩ => goD isE sr e fun d1 s1 v1 H1 g1 l1 sr1 r1 e1 => goT isE sr1 e1 fun l s2 H2 g2 l2 sr2 e2 => goT isE sr2 e2 fun h s3 H3 g3 l3 sr3 e3 => by
    obtain ⟨d, hd, q⟩ := mopt_endE isE e3
    exact o sr3 (repL_mono (l2.trans l3) r1) hd fun v H' g' l sr' rp => q v H' g' l sr' (repL_of rp)
theorem SlR.or3 {r r' : V → Option Int → Option Int → Hp → VK → Prop} (h : SlR X r) (h' : SlR X r') : SlR X (fun x lo hi H Q => r x lo hi H Q ∨ r' x lo hi H Q) := SlR.or h h'
def slcD (s : S) (d : D) (lo hi : Option Int) : Option D := match d with
  | .str x => if x.length ≤ sizeLine then some (.str (cutN x lo hi)) else none
  | .scr xs => some (.lst ((cutV (xs.map V.int) lo hi).map fun v => match v with | .int i => .int i | _ => .non))
  | d => match dd s d with
    | some (.lst xs) => some (.lst (cutD xs lo hi))
    | some (.tup xs) => if (HT.sIx xs.length 0 lo = 0 ∧ HT.sIx xs.length xs.length hi = xs.length) then none else some (.tup (cutD xs lo hi))
    | _ => none
theorem cut_reps {g : Gh} {xs : List D} {vs : List V} (lo hi : Option Int) (r : reps K g xs vs) : reps K g (cutD xs lo hi) (cutV vs lo hi) := by
  unfold cutD cutV
  rw [reps_length r]
  exact reps_take _ (reps_drop _ r)
theorem reps_ints {g : Gh} : ∀ vs : List V, (∀ v ∈ vs, ∃ i, v = .int i) → reps K g (vs.map fun v => match v with | .int i => .int i | _ => .non) vs
  | [], _ => rfl
  | v :: vs, h => by
    obtain ⟨i, rfl⟩ := h v (List.mem_cons_self ..)
    exact ⟨_, _, rfl, rfl, reps_ints vs fun v hv => h v (List.mem_cons_of_mem _ hv)⟩
theorem sl_any : SlR X (fun x lo hi H Q => rSlS x lo hi H Q ∨ rSlL X.K x lo hi H Q ∨ rSlT X.K x lo hi H Q) := SlR.or sl_str (SlR.or sl_list sl_tup)
theorem sd_any : SlD K (fun x lo hi H Q => rSlS x lo hi H Q ∨ rSlL K x lo hi H Q ∨ rSlT K x lo hi H Q) slcD := by
  intro Z s g σ H a x lo hi d Q sr ra e q
  have dat : ∀ {d}, (match dd s a with
    | some (.lst xs) => some (D.lst (cutD xs lo hi))
    | some (.tup xs) => if (HT.sIx xs.length 0 lo = 0 ∧ HT.sIx xs.length xs.length hi = xs.length) then none else some (.tup (cutD xs lo hi))
    | _ => none) = some d → (∀ v H' g', Gle g g' → SRz K Z s g' σ H' → rep K g' d v → Q v H') → rSlS x lo hi H Q ∨ rSlL K x lo hi H Q ∨ rSlT K x lo hi H Q := by
    intro d e q
    cases h : dd s a with
    | none => rw [h] at e; cases e
    | some y =>
      rw [h] at e
      cases y with
      | lst xs =>
        cases e
        obtain ⟨p, vs, e1, e2, e3⟩ := dd_rd sr ra h
        exact .inr (.inl ⟨p, vs, e1, SqL.of e2, fun n hn => by
          obtain ⟨g', l, sr', rp⟩ := sr.alloc_lst hn (cut_reps lo hi e3)
          exact q _ _ g' l sr' rp⟩)
      | tup xs =>
        simp only at e
        split at e
        · cases e
        · rename_i nw
          cases e
          obtain ⟨p, vs, e1, e2, e3⟩ := dd_rd sr ra h
          exact .inr (.inr ⟨p, vs, e1, SqT.mono sr.gr.sub e2, by rw [reps_length e3]; exact nw, fun n hn => by
            obtain ⟨g', l, sr', rp⟩ := sr.alloc_tup hn (cut_reps lo hi e3)
            exact q _ _ g' l sr' rp⟩)
      | _ => cases e
  cases a with
  | str z =>
    simp only [slcD] at e
    split at e
    · cases e
      exact .inl ⟨sx z, ra, by assumption, q _ H g (Gle.refl _) sr rfl⟩
    · cases e
  | scr z =>
    cases e
    obtain ⟨p, e1, e2⟩ := ra
    refine .inr (.inl ⟨p, z.map V.int, e1, SqL.mono sr.gr.sub e2, fun n hn => ?_⟩)
    obtain ⟨g', l, sr', rp⟩ := sr.alloc_lst hn (reps_ints (K := K) (g := g) (cutV (z.map V.int) lo hi) fun v hv => by
      have : v ∈ z.map V.int := List.mem_of_mem_drop (List.mem_of_mem_take hv)
      obtain ⟨i, _, rfl⟩ := List.mem_map.mp this
      exact ⟨i, rfl⟩)
    exact q _ _ g' l sr' rp
  | lst _ => exact dat e q
  | tup _ => exact dat e q
  | loc _ => exact dat e q
  | shr _ => exact dat e q
  | _ => exact dat e q
end

/-! ### displays, fresh objects -/
def OwnU (K : PySem.W.Frag) (g : Gh) (u : HO) : Own → Prop
  | .lst ds => ∃ vs, u = .lst vs ∧ reps K g ds vs
  | .dct kvs => ∃ vs, u = .dK vs ∧ repK K g kvs vs
  | .obj _ _ => False
def FEnd (K : PySem.W.Frag) (Z : En) (W : WX) (g : Gh) (σ : St) (Q : VK) (r : R Own) : Prop := match r with
  | .ok o s => ∀ p u H' g', Gle g g' → SRz K Z s g' σ H' → H' p = none → OwnU K g' u o → Q (.ref p) (upd H' p u)
  | .exc x s => XEnd K Z W g σ x s
  | .bad => False
/-- an expression that makes a new list or dict -/
def tF (K : PySem.W.Frag) (Z : En) (W : WX) (m : M Own) : TE := fun σ H Q => ∃ s g, SRz K Z s g σ H ∧ FEnd K Z W g σ Q (m s)
section
variable {X : Cx} {Z : En} {W : WX} {k : Nat} {a b e : Expr} {es : List Expr} {m : M D} {ma : M (List D)} {mo : M Own} {pos : Pos} {K : PySem.W.Frag} {g : Gh} {σ : St} {H : Hp} {s : S}
theorem isF {Q : VK} : IsEnd K Z W σ (fun g r => FEnd K Z W g σ Q r) := ⟨fun {g g' r} m h => by
  cases r with
  | ok d s => exact fun p u H' g2 m2 => h p u H' g2 (m.trans m2)
  | exc x s => exact XEnd.up m h
  | bad => exact h, fun h => h, fun h => h⟩
def frz (m : M Own) : M D := mb m fun o => mret o.dat
theorem own_alloc {Z0 : En} {p : Addr} {u : HO} {o : Own} (sr : SR K Z0 s g σ H) (n : H p = none) (r : OwnU K g u o) :
    ∃ g', Gle g g' ∧ SR K Z0 s g' σ (upd H p u) ∧ rep K g' o.dat (.ref p) := by
  obtain ⟨le, sr'⟩ := sr.alloc (u := u) n
  refine ⟨_, le, sr', ?_⟩
  cases o with
  | lst ds => obtain ⟨vs, rfl, r⟩ := r; exact ⟨p, vs, rfl, upd_same, reps_mono le _ _ r⟩
  | dct ds => obtain ⟨vs, rfl, r⟩ := r; exact ⟨p, vs, rfl, upd_same, repK_mono le _ _ r⟩
  | obj _ _ => exact r.elim
theorem tF_tD {t : TE} (ht : ∀ {σ H Q}, tF K Z W mo σ H Q → t σ H Q) {σ : St} {H : Hp} {Q : VK} (h : tD K Z W (frz mo) σ H Q) : t σ H Q := by
  obtain ⟨s, g, sr, e⟩ := h
  refine ht ⟨s, g, sr, ?_⟩
  unfold frz mb at e
  cases q : mo s with
  | ok o s' =>
    rw [q] at e
    intro p u H' g' le sr' n r
    obtain ⟨g2, l2, sr2, rp⟩ := own_alloc sr' n r
    exact e _ _ g2 (le.trans l2) sr2 (repL_of rp)
  | exc x s' => rw [q] at e; exact e
  | bad => rw [q] at e; exact e
theorem d_frz (h : PE X e (tF X.K Z W mo)) : PE X e (tD X.K Z W (frz mo)) := PE.weak h fun σ H Q h => tF_tD (fun h => h) h
def lstM (ma : M (List D)) : M Own := mb ma fun ds => mb (fzs ds) fun xs => mopt fun _ => if xs.length ≤ sizeLine then some (.lst xs) else none
theorem f_lst (h : PA X es (tA X.K Z W ma)) : PE X (.List es pos) (tF X.K Z W (lstM ma)) :=
  PE.weak (pe_lst h) fun σ H Q ⟨s, g, sr, e⟩ => goA isF sr e fun ds s1 vs H1 g1 l1 sr1 r1 e1 => by
    obtain ⟨g2, xs, s2, l2, sr2, r2, e2⟩ := fzs_end isF sr1 r1 e1
    obtain ⟨o, ho, q⟩ := mopt_endE isF e2
    split at ho
    · rename_i hl
      cases ho
      exact ⟨by rw [reps_length r2]; exact hl, fun p hp => q p _ _ g2 (Gle.refl _) sr2 hp ⟨vs, rfl, r2⟩⟩
    · cases ho
def tupM (ma : M (List D)) : M D := mb ma fun ds => mb (fzs ds) fun xs => mopt fun _ => if xs.length ≤ sizeLine then some (.tup xs) else none
theorem d_tup {x1} (h : PA X es (tA X.K Z W ma)) : PE X (.Tuple es x1 pos) (tD X.K Z W (tupM ma)) :=
  PE.weak (pe_tup h) fun σ H Q ⟨s, g, sr, e⟩ => goA isE sr e fun ds s1 vs H1 g1 l1 sr1 r1 e1 => by
    obtain ⟨g2, xs, s2, l2, sr2, r2, e2⟩ := fzs_end isE sr1 r1 e1
    obtain ⟨o, ho, q⟩ := mopt_endE isE e2
    split at ho
    · rename_i hl
      cases ho
      refine ⟨by rw [reps_length r2]; exact hl, fun p hp => ?_⟩
      obtain ⟨g3, l3, sr3, rp⟩ := sr2.alloc_tup hp r2
      exact q _ _ g3 l3 sr3 (repL_of rp)
    · cases ho
end

/-! ### built-in functions -/
/-- a built-in's rule on data -/
def CalD (K : PySem.W.Frag) (r : List V → Hp → VK → Prop) (f : S → List D → Option D) : Prop :=
  ∀ {Z : En} {s : S} {g : Gh} {σ : St} {H : Hp} {ds : List D} {vs : List V} {d : D} {Q : VK}, SRz K Z s g σ H → repLs K g σ ds vs → f s ds = some d →
    (∀ v H' g', Gle g g' → SRz K Z s g' σ H' → rep K g' d v → Q v H') → r vs H Q
/-- .. that makes a new object -/
def CalF (K : PySem.W.Frag) (r : List V → Hp → VK → Prop) (f : S → List D → Option Own) : Prop :=
  ∀ {Z : En} {s : S} {g : Gh} {σ : St} {H : Hp} {ds : List D} {vs : List V} {o : Own} {Q : VK}, SRz K Z s g σ H → repLs K g σ ds vs → f s ds = some o →
    (∀ p u g', Gle g g' → SRz K Z s g' σ H → H p = none → OwnU K g' u o → Q (.ref p) (upd H p u)) → r vs H Q
def calM (f : S → List D → Option D) (ma : M (List D)) : M D := mb ma fun ds => mopt fun s => f s ds
def calF (f : S → List D → Option Own) (ma : M (List D)) : M Own := mb ma fun ds => mopt fun s => f s ds
section
variable {X : Cx} {Z : En} {W : WX} {k : Nat} {e : Expr} {es : List Expr} {m : M D} {ma : M (List D)} {x : Str} {p pos : Pos} {id T : String} {r : List V → Hp → VK → Prop} {f : S → List D → Option D} {ff : S → List D → Option Own}
theorem tCB_of {K : PySem.W.Frag} (o : CalD K r f) {σ : St} {H : Hp} {Q : VK} (h : tD K Z W (calM f ma) σ H Q) : tCB r (tA K Z W ma) σ H Q := by
  obtain ⟨s, g, sr, e⟩ := h
  refine goA isE sr e fun ds s1 vs H1 g1 l1 sr1 r1 e1 => ?_
  obtain ⟨d, hd, q⟩ := mopt_endE isE e1
  exact o sr1 r1 hd fun v H' g' l sr' rp => q v H' g' l sr' (repL_of rp)
theorem tCBF_of {K : PySem.W.Frag} (o : CalF K r ff) {σ : St} {H : Hp} {Q : VK} (h : tF K Z W (calF ff ma) σ H Q) : tCB r (tA K Z W ma) σ H Q := by
  obtain ⟨s, g, sr, e⟩ := h
  refine goA isF sr e fun ds s1 vs H1 g1 l1 sr1 r1 e1 => ?_
  obtain ⟨d, hd, q⟩ := mopt_endE isF e1
  exact o sr1 r1 hd fun p u g' l sr' hp ow => q p u H1 g' l sr' hp ow
theorem d_callB (hc : CallR X (.builtin id) r) (o : CalD X.K r f) (hg : Gl X x) (hm : X.mg x = none) (hv : bootBuiltins x = some (.builtin id)) (ha : PA X (e :: es) (tA X.K Z W ma)) (hn : x ≠ "__name__" := by decide) (hdb : (x == ("__debug__" : Str)) = false := by decide)
    (he : starEach (e :: es) X.env = (false, eval e X.env) :: starEach es X.env := by rfl) (hpl : (backTo pos (starEach es X.env)).any (·.1) = false := by rfl) : PE X (.Call (.Name x p) (e :: es) [] pos) (tD X.K Z W (calM f ma)) :=
  PE.weak (pe_callB hc hg hm hv ha hn hdb he hpl) fun σ H Q h => tCB_of o h
theorem d_callTy (hc : CallR X (.type T) r) (o : CalD X.K r f) (hg : Gl X x) (hm : X.mg x = none) (hv : bootBuiltins x = some (.type T)) (ha : PA X (e :: es) (tA X.K Z W ma)) (hn : x ≠ "__name__" := by decide) (hdb : (x == ("__debug__" : Str)) = false := by decide)
    (he : starEach (e :: es) X.env = (false, eval e X.env) :: starEach es X.env := by rfl) (hpl : (backTo pos (starEach es X.env)).any (·.1) = false := by rfl) : PE X (.Call (.Name x p) (e :: es) [] pos) (tD X.K Z W (calM f ma)) :=
  PE.weak (pe_callTy hc hg hm hv ha hn hdb he hpl) fun σ H Q h => tCB_of o h
theorem f_callTy (hc : CallR X (.type T) r) (o : CalF X.K r ff) (hg : Gl X x) (hm : X.mg x = none) (hv : bootBuiltins x = some (.type T)) (ha : PA X (e :: es) (tA X.K Z W ma)) (hn : x ≠ "__name__" := by decide) (hdb : (x == ("__debug__" : Str)) = false := by decide)
    (he : starEach (e :: es) X.env = (false, eval e X.env) :: starEach es X.env := by rfl) (hpl : (backTo pos (starEach es X.env)).any (·.1) = false := by rfl) : PE X (.Call (.Name x p) (e :: es) [] pos) (tF X.K Z W (calF ff ma)) :=
  PE.weak (pe_callTy hc hg hm hv ha hn hdb he hpl) fun σ H Q h => tCBF_of o h
end
/-- len -/
def lenD (s : S) (ds : List D) : Option D := match ds with
  | [d] => match dd s d with
    | some (.str x) => if x.length ≤ sizeLine then some (.int x.length) else none
    | some (.lst xs) => some (.int xs.length)
    | some (.tup xs) => some (.int xs.length)
    | _ => none
  | _ => none
theorem repLs1 {K : PySem.W.Frag} {g : Gh} {σ : St} {d : D} {vs : List V} (h : repLs K g σ [d] vs) : ∃ v, vs = [v] ∧ repL K g σ d v := by
  obtain ⟨v, r, rfl, h1, h2⟩ := h
  cases h2
  exact ⟨v, rfl, h1⟩
theorem repLs2 {K : PySem.W.Frag} {g : Gh} {σ : St} {d e : D} {vs : List V} (h : repLs K g σ [d, e] vs) : ∃ v u, vs = [v, u] ∧ repL K g σ d v ∧ repL K g σ e u := by
  obtain ⟨v, r, rfl, h1, h2⟩ := h
  obtain ⟨u, rfl, h3⟩ := repLs1 h2
  exact ⟨v, u, rfl, h1, h3⟩
section
variable {K : PySem.W.Frag} {X : Cx}
theorem cd_len : CalD K (fun xs H Q => ∃ x n, xs = [x] ∧ LenV K x H n ∧ Q (.int n) H) lenD := by
  intro Z s g σ H ds vs d Q sr r e q
  unfold lenD at e
  split at e
  · rename_i d1
    obtain ⟨v, rfl, r1⟩ := repLs1 r
    cases h : dd s d1 with
    | none => rw [h] at e; cases e
    | some y =>
      rw [h] at e
      have z := dd_rd sr r1 h
      cases y with
      | str x =>
        simp only at e
        split at e
        · rename_i hl
          cases e
          cases z
          exact ⟨_, x.length, rfl, ⟨hl, rfl⟩, q _ H g (Gle.refl _) sr rfl⟩
        · cases e
      | lst xs =>
        cases e
        obtain ⟨a, us, rfl, e2, e3⟩ := z
        exact ⟨_, xs.length, rfl, .inl ⟨us, SqL.of e2, (reps_length e3).symm⟩, q _ H g (Gle.refl _) sr rfl⟩
      | tup xs =>
        cases e
        obtain ⟨a, us, rfl, e2, e3⟩ := z
        exact ⟨_, xs.length, rfl, .inr ⟨us, SqT.mono sr.gr.sub e2, (reps_length e3).symm⟩, q _ H g (Gle.refl _) sr rfl⟩
      | _ => cases e
  · cases e
def int1 (g : Int → Option D) (_ : S) (ds : List D) : Option D := match ds with | [.int i] => g i | _ => none
def int2 (g : Int → Int → Option D) (_ : S) (ds : List D) : Option D := match ds with | [.int i, .int j] => g i j | _ => none
theorem repLs_int1 {g : Gh} {σ : St} {i : Int} {vs : List V} (h : repLs K g σ [.int i] vs) : vs = [.int i] := by
  obtain ⟨v, rfl, r⟩ := repLs1 h; cases r; rfl
theorem repLs_int2 {g : Gh} {σ : St} {i j : Int} {vs : List V} (h : repLs K g σ [.int i, .int j] vs) : vs = [.int i, .int j] := by
  obtain ⟨v, u, rfl, r, r'⟩ := repLs2 h; cases r; cases r'; rfl
theorem cd_int1 {r : List V → Hp → VK → Prop} {f : Int → Option D} (h : ∀ i d H (Q : VK), f i = some d → (∀ v, (∀ g, rep K g d v) → Q v H) → r [.int i] H Q) : CalD K r (int1 f) := by
  intro Z s g σ H ds vs d Q sr rp e q
  unfold int1 at e
  split at e
  · rw [repLs_int1 rp]
    exact h _ d H Q e fun v hv => q v H g (Gle.refl _) sr (hv g)
  · cases e
theorem cd_int2 {r : List V → Hp → VK → Prop} {f : Int → Int → Option D} (h : ∀ i j d H (Q : VK), f i j = some d → (∀ v, (∀ g, rep K g d v) → Q v H) → r [.int i, .int j] H Q) : CalD K r (int2 f) := by
  intro Z s g σ H ds vs d Q sr rp e q
  unfold int2 at e
  split at e
  · rw [repLs_int2 rp]
    exact h _ _ d H Q e fun v hv => q v H g (Gle.refl _) sr (hv g)
  · cases e
theorem cd_abs : CalD K (fun xs H Q => ∃ i, xs = [.int i] ∧ Q (.int (if i < 0 then -i else i)) H) (int1 fun i => some (.int (if i < 0 then -i else i))) :=
  @cd_int1 K _ _ fun i d H Q e q => by cases e; exact ⟨i, rfl, q _ fun _ => rfl⟩
theorem cd_max2 : CalD K (fun xs H Q => ∃ i j, xs = [.int i, .int j] ∧ Q (.int (if j > i then j else i)) H) (int2 fun i j => some (.int (if j > i then j else i))) :=
  @cd_int2 K _ _ fun i j d H Q e q => by cases e; exact ⟨i, j, rfl, q _ fun _ => rfl⟩
theorem cd_min2 : CalD K (fun xs H Q => ∃ i j, xs = [.int i, .int j] ∧ Q (.int (if j < i then j else i)) H) (int2 fun i j => some (.int (if j < i then j else i))) :=
  @cd_int2 K _ _ fun i j d H Q e q => by cases e; exact ⟨i, j, rfl, q _ fun _ => rfl⟩
def intD (_ : S) (ds : List D) : Option D := match ds with | [.int i] => some (.int i) | [.bl k] => some (.int (if k then 1 else 0)) | _ => none
theorem cd_int : CalD K (fun xs H Q => (∃ i, xs = [.int i] ∧ Q (.int i) H) ∨ ∃ k, xs = [.bl k] ∧ Q (.int (if k then 1 else 0)) H) intD := by
  intro Z s g σ H ds vs d Q sr rp e q
  unfold intD at e
  split at e
  · cases e
    exact .inl ⟨_, repLs_int1 rp, q _ H g (Gle.refl _) sr rfl⟩
  · cases e
    obtain ⟨v, rfl, r⟩ := repLs1 rp
    cases r
    exact .inr ⟨_, rfl, q _ H g (Gle.refl _) sr rfl⟩
  · cases e
theorem cd_str : CalD K (fun xs H Q => ∃ i : Int, xs = [.int i] ∧ i.natAbs.log2 < 1920 ∧ Q (.str (toString i)) H) (int1 fun i => if i.natAbs.log2 < 1920 then some (.str (Str.ofString (toString i)).cps.toList) else none) :=
  @cd_int1 K _ _ fun i d H Q e q => by
    split at e
    · rename_i h
      cases e
      exact ⟨i, rfl, h, q _ fun _ => rfl⟩
    · cases e
/-- all, any of a list of bools -/
def allB : List D → Option (List Bool)
  | [] => some []
  | .bl b :: r => (allB r).map (b :: ·)
  | _ => none
theorem allB_ok {g : Gh} : ∀ {ds : List D} {vs : List V} {bs : List Bool}, allB ds = some bs → reps K g ds vs → vs = bs.map V.bl
  | [], _, _, e, h => by cases e; cases h; rfl
  | d :: ds, vs, bs, e, h => by
    obtain ⟨v, r, rfl, h1, h2⟩ := h
    cases d with
    | bl b =>
      simp only [allB] at e
      cases q : allB ds with
      | none => rw [q] at e; cases e
      | some cs =>
        rw [q] at e
        cases e
        cases h1
        rw [allB_ok q h2]; rfl
    | _ => cases e
def boolsD (f : List Bool → Bool) (s : S) (ds : List D) : Option D := match ds with
  | [d] => (rdL s d).bind fun xs => (allB xs).map fun bs => .bl (f bs)
  | _ => none
theorem boolsD_ok {Z : En} {s : S} {g : Gh} {σ : St} {H : Hp} {ds : List D} {vs : List V} {d : D} {f : List Bool → Bool} (sr : SRz K Z s g σ H) (r : repLs K g σ ds vs) (e : boolsD f s ds = some d) :
    ∃ (a : Addr) (bs : List Bool), vs = [V.ref a] ∧ SqL K H a (bs.map V.bl) ∧ d = .bl (f bs) := by
  unfold boolsD at e
  split at e
  · obtain ⟨v, rfl, r1⟩ := repLs1 r
    rename_i d1
    cases h : rdL s d1 with
    | none => rw [h] at e; cases e
    | some xs =>
      rw [h] at e
      obtain ⟨a, us, rfl, e2, e3⟩ := rdL_ok sr r1 h
      cases h2 : allB xs with
      | none => simp [h2] at e
      | some bs =>
        simp [h2] at e
        refine ⟨a, bs, rfl, ?_, e.symm⟩
        rw [← allB_ok h2 e3]
        exact SqL.of e2
  · cases e
theorem cd_any : CalD K (rAny K) (boolsD fun bs => bs.any id) := by
  intro Z s g σ H ds vs d Q sr rp e q
  obtain ⟨a, bs, rfl, h, rfl⟩ := boolsD_ok sr rp e
  exact ⟨a, bs, rfl, h, q _ H g (Gle.refl _) sr rfl⟩
theorem cd_all : CalD K (rAll K) (boolsD fun bs => bs.all id) := by
  intro Z s g σ H ds vs d Q sr rp e q
  obtain ⟨a, bs, rfl, h, rfl⟩ := boolsD_ok sr rp e
  exact ⟨a, bs, rfl, h, q _ H g (Gle.refl _) sr rfl⟩
/-- list(x), tuple(x) -/
def listD (s : S) (ds : List D) : Option Own := match ds with | [d] => (rdS s d).map .lst | _ => none
theorem cf_list : CalF K (fun xs H Q => ∃ p ys, xs = [.ref p] ∧ (SqL K H p ys ∨ SqT K H p ys) ∧ ∀ l, H l = none → Q (.ref l) (upd H l (.lst ys))) listD := by
  intro Z s g σ H ds vs o Q sr rp e q
  unfold listD at e
  split at e
  · rename_i d1
    obtain ⟨v, rfl, r1⟩ := repLs1 rp
    cases h : rdS s d1 with
    | none => rw [h] at e; cases e
    | some xs =>
      rw [h] at e
      cases e
      obtain ⟨a, us, rfl, e2, e3⟩ := rdS_items sr r1 h
      exact ⟨a, us, rfl, e2.imp SqL.of id, fun l hl => q l _ g (Gle.refl _) sr hl ⟨us, rfl, e3⟩⟩
  · cases e
def tupleD (s : S) (ds : List D) : Option D := match ds with | [d] => (rdS s d).map .tup | _ => none
theorem cd_tuple : CalD K (fun xs H Q => ∃ p ys, xs = [.ref p] ∧ ((SqL K H p ys ∧ ∀ l, H l = none → Q (.ref l) (upd H l (.tup ys))) ∨ (SqT K H p ys ∧ Q (.ref p) H))) tupleD := by
  intro Z s g σ H ds vs o Q sr rp e q
  unfold tupleD at e
  split at e
  · rename_i d1
    obtain ⟨v, rfl, r1⟩ := repLs1 rp
    cases h : rdS s d1 with
    | none => rw [h] at e; cases e
    | some xs =>
      rw [h] at e
      cases e
      unfold rdS at h
      cases h2 : dd s d1 with
      | none => rw [h2] at h; cases h
      | some y =>
        rw [h2] at h
        have z := dd_rd sr r1 h2
        cases y with
        | lst ys =>
          cases h
          obtain ⟨a, us, rfl, e2, e3⟩ := z
          refine ⟨a, us, rfl, .inl ⟨SqL.of e2, fun l hl => ?_⟩⟩
          obtain ⟨g', le, sr', rp⟩ := sr.alloc_tup hl e3
          exact q _ _ g' le sr' rp
        | tup ys =>
          cases h
          obtain ⟨a, us, rfl, e2, e3⟩ := z
          exact ⟨a, us, rfl, .inr ⟨SqT.mono sr.gr.sub e2, q _ H g (Gle.refl _) sr ⟨a, us, rfl, e2, e3⟩⟩⟩
        | _ => cases h
  · cases e
end
end DL
end
section -- DG
set_option Elab.async false
set_option linter.all false
set_option maxRecDepth 100000
namespace DL
open PySem PySem.Spec L2

/-! ### methods of texts -/
def toS (d : D) : Option (List Nat) := match d with | .str x => some x | _ => none
def sm1 (f : S → List Nat → D → Option D) (mo ma : M D) : M D := mb mo fun x => mb (mopt fun _ => toS x) fun z => mb ma fun y => mopt fun s => f s z y
def sm0 (f : S → List Nat → Option D) (mo : M D) : M D := mb mo fun x => mb (mopt fun _ => toS x) fun z => mopt fun s => f s z
/-- a method's rule on data -/
def Mt1D (K : PySem.W.Frag) (r : V → List V → Hp → VK → Prop) (f : S → List Nat → D → Option D) : Prop :=
  ∀ {Z : En} {s : S} {g : Gh} {σ : St} {H : Hp} {z : List Nat} {a d : D} {y : V} {Q : VK}, SRz K Z s g σ H → repL K g σ a y → f s z a = some d →
    (∀ v H' g', Gle g g' → SRz K Z s g' σ H' → rep K g' d v → Q v H') → r (.str (sx z)) [y] H Q
def Mt0D (K : PySem.W.Frag) (r : V → List V → Hp → VK → Prop) (f : S → List Nat → Option D) : Prop :=
  ∀ {Z : En} {s : S} {g : Gh} {σ : St} {H : Hp} {z : List Nat} {d : D} {Q : VK}, SRz K Z s g σ H → f s z = some d →
    (∀ v H' g', Gle g g' → SRz K Z s g' σ H' → rep K g' d v → Q v H') → r (.str (sx z)) [] H Q
theorem toS_ok {K : PySem.W.Frag} {g : Gh} {σ : St} {d : D} {v : V} {c : List Nat} (r : repL K g σ d v) (h : toS d = some c) : v = .str (sx c) := by
  cases d with
  | str b => cases h; exact r
  | _ => cases h
section
variable {X : Cx} {Z : En} {W : WX} {k : Nat} {o e : Expr} {m mo ma : M D} {name : Str} {id : String} {apos pos : Pos} {r : V → List V → Hp → VK → Prop}
theorem d_m1 {f : S → List Nat → D → Option D} (slot : Slot "str" name id) (ty : typeOf (.builtin id) = pure (.type "method_descriptor")) (rule : MtR X id r) (od : Mt1D X.K r f) (ho : PE X o (tD X.K Z W mo)) (he : PE X e (tD X.K Z W ma))
    (hs : starEach [e] X.env = [(false, eval e X.env)] := by rfl) (hbase : attributeBase o name X.env (eval o X.env) = eval o X.env := by rfl) (hline : (apos.endLine == pos.line) = true := by rfl) :
    PE X (.Call (.Attribute o name apos) [e] [] pos) (tD X.K Z W (sm1 f mo ma)) :=
  PE.weak (pe_m1 slot ty rule ho he hs hbase hline) fun σ H Q ⟨s, g, sr, e⟩ => goD isE sr e fun d1 s1 v1 H1 g1 l1 sr1 r1 e1 => by
    obtain ⟨z, hz, e1⟩ := mopt_end isE e1
    have hv := toS_ok r1 hz
    subst hv
    refine ⟨⟨_, rfl⟩, goD isE sr1 e1 fun d2 s2 v2 H2 g2 l2 sr2 r2 e2 => ?_⟩
    obtain ⟨d, hd, q⟩ := mopt_endE isE e2
    exact od sr2 r2 hd fun v H' g' l sr' rp => q v H' g' l sr' (repL_of rp)
theorem d_m0 {f : S → List Nat → Option D} (slot : Slot "str" name id) (ty : typeOf (.builtin id) = pure (.type "method_descriptor")) (rule : MtR X id r) (od : Mt0D X.K r f) (ho : PE X o (tD X.K Z W mo))
    (hbase : attributeBase o name X.env (eval o X.env) = eval o X.env := by rfl) (hline : (apos.endLine == pos.line) = true := by rfl) :
    PE X (.Call (.Attribute o name apos) [] [] pos) (tD X.K Z W (sm0 f mo)) :=
  PE.weak (pe_m0 slot ty rule ho hbase hline) fun σ H Q ⟨s, g, sr, e⟩ => goD isE sr e fun d1 s1 v1 H1 g1 l1 sr1 r1 e1 => by
    obtain ⟨z, hz, e1⟩ := mopt_end isE e1
    have hv := toS_ok r1 hz
    subst hv
    refine ⟨⟨_, rfl⟩, ?_⟩
    obtain ⟨d, hd, q⟩ := mopt_endE isE e1
    exact od sr1 hd fun v H' g' l sr' rp => q v H' g' l sr' (repL_of rp)
end
section
variable {K : PySem.W.Frag}
def ss (f : List Nat → List Nat → Option D) (_ : S) (z : List Nat) (d : D) : Option D := match d with | .str y => f z y | _ => none
theorem md_bl {g : Str → Str → Bool} : Mt1D K (fun x xs H Q => ∃ a b, x = .str a ∧ xs = [.str b] ∧ Q (.bl (g a b)) H) (ss fun z y => some (.bl (g (sx z) (sx y)))) := by
  intro Z s gg σ H z a d y Q sr r e q
  cases a with
  | str y1 => cases e; cases r; exact ⟨_, _, rfl, rfl, q _ H gg (Gle.refl _) sr rfl⟩
  | _ => cases e
theorem md_int {g : Str → Str → Int} : Mt1D K (fun x xs H Q => ∃ a b, x = .str a ∧ xs = [.str b] ∧ Q (.int (g a b)) H) (ss fun z y => some (.int (g (sx z) (sx y)))) := by
  intro Z s gg σ H z a d y Q sr r e q
  cases a with
  | str y1 => cases e; cases r; exact ⟨_, _, rfl, rfl, q _ H gg (Gle.refl _) sr rfl⟩
  | _ => cases e
def unS (t : Str) : D := .str t.cps.toList
theorem rep_unS {g : Gh} (t : Str) : rep K g (unS t) (.str t) := rfl
theorem reps_unS {g : Gh} : ∀ ts : List Str, reps K g (ts.map unS) (ts.map V.str)
  | [] => rfl
  | t :: ts => ⟨_, _, rfl, rfl, reps_unS ts⟩
def splitD : S → List Nat → D → Option D := ss fun z y => if y ≠ [] ∧ z.length + 2 ≤ sizeLine then some (.lst ((Txt.split (sx z) (sx y)).map unS)) else none
theorem md_split : Mt1D K (fun x xs H Q => ∃ a b, x = .str a ∧ xs = [.str b] ∧ (b.length == 0) = false ∧ a.length + 2 ≤ sizeLine ∧ rNewStrs (Txt.split a b) H Q) splitD := by
  intro Z s gg σ H z a d y Q sr r e q
  cases a with
  | str y1 =>
    simp only [splitD, ss] at e
    split at e
    · rename_i h
      cases e; cases r
      refine ⟨_, _, rfl, rfl, ?_, h.2, fun p hp => ?_⟩
      · rw [beq_eq_false_iff_ne]
        intro z
        exact h.1 (List.length_eq_zero_iff.mp z)
      · obtain ⟨g', le, sr', rp⟩ := sr.alloc_lst hp (reps_unS _)
        exact q _ _ g' le sr' rp
    · cases e
  | _ => cases e
/-- a list of texts -/
def strsB : List D → Option (List (List Nat))
  | [] => some []
  | .str b :: r => (strsB r).map (b :: ·)
  | _ => none
theorem strsB_ok {g : Gh} : ∀ {ds : List D} {vs : List V} {bs : List (List Nat)}, strsB ds = some bs → reps K g ds vs → vs = (bs.map sx).map V.str
  | [], _, _, e, h => by cases e; cases h; rfl
  | d :: ds, vs, bs, e, h => by
    obtain ⟨v, r, rfl, h1, h2⟩ := h
    cases d with
    | str b =>
      simp only [strsB] at e
      cases q : strsB ds with
      | none => rw [q] at e; cases e
      | some cs =>
        rw [q] at e
        cases e
        cases h1
        rw [strsB_ok q h2]; rfl
    | _ => cases e
def joinD (s : S) (z : List Nat) (d : D) : Option D := (rdS s d).bind fun xs => (strsB xs).bind fun ys => if (ys.map (·.length)).sum + ys.length * z.length ≤ 16777216 then some (unS (Txt.join (sx z) (ys.map sx))) else none
theorem md_join : Mt1D K (fun x xs H Q => ∃ a p, ∃ ys : List Str, x = .str a ∧ xs = [.ref p] ∧ (SqL K H p (ys.map V.str) ∨ SqT K H p (ys.map V.str)) ∧ (ys.map (·.length)).sum + ys.length * a.length ≤ 16777216 ∧ Q (.str (Txt.join a ys)) H) joinD := by
  intro Z s gg σ H z a d y Q sr r e q
  unfold joinD at e
  cases h1 : rdS s a with
  | none => rw [h1] at e; cases e
  | some xs =>
    rw [h1] at e
    simp only [Option.bind_some] at e
    cases h2 : strsB xs with
    | none => rw [h2] at e; cases e
    | some ys =>
      rw [h2] at e
      simp only [Option.bind_some] at e
      split at e
      · rename_i hl
        cases e
        obtain ⟨p, vs, rfl, e2, e3⟩ := rdS_items sr r h1
        have := strsB_ok h2 e3
        subst this
        refine ⟨sx z, p, ys.map sx, rfl, rfl, e2.imp SqL.of _root_.id, ?_, q _ H gg (Gle.refl _) sr (rep_unS _)⟩
        rw [List.map_map, List.length_map]
        exact hl
      · cases e
end
/-- text * number -/
def strMulD (_ : S) (a b : D) : Option D := match a, b with
  | .str x, .int n => if n < 2 ^ 62 ∧ x.length * n.toNat ≤ sizeLine ∧ -(2 ^ 62) < n then some (unS (Txt.mul (sx x) n)) else none
  | _, _ => none
def rStrMul : R2 := fun x y H Q => ∃ z n, x = .str z ∧ y = .int n ∧ MulOk z n ∧ Q (.str (Txt.mul z n)) H
theorem op_strMul {X : Cx} : OpR X (binaryOp .Mult) rStrMul := by
  intro pins s σ H x y v u Q I rx ry h
  obtain ⟨z, n, rfl, rfl, ok, q⟩ := h
  obtain ⟨t, rfl⟩ := rx
  obtain ⟨t', rfl⟩ := ry
  exact PySem.SB.mul ok fun t' k => ⟨.str _, H, I.tok k, ⟨t', rfl⟩, q⟩
theorem mulOk_of {x : List Nat} {n : Int} (h1 : n < 2 ^ 62) (h2 : x.length * n.toNat ≤ sizeLine) (h3 : -(2 ^ 62) < n) : MulOk (sx x) n := by
  refine ⟨?_, fun h4 h5 => ?_, fun h4 h5 => ?_⟩
  · have a : ¬ (n < -(2 ^ 63 : Int)) := by omega
    have b : ¬ (n ≥ (2 ^ 63 : Int)) := by omega
    simp [a, b]
    omega
  · have e : (sx x).length = x.length := rfl
    rw [e]
    intro h
    have hs : sizeLine = 16777216 := rfl
    rw [hs] at h2
    have hn : (0 : Int) < n := by omega
    have h6 : (2 ^ 63 - 1 : Int) < x.length * n := by
      have := Int.lt_mul_of_ediv_lt hn h
      exact this
    have h7 : ((x.length * n.toNat : Nat) : Int) = x.length * n := by
      rw [Int.natCast_mul, Int.toNat_of_nonneg (by omega)]
    omega
  · unfold Builtin.Str.tooLong
    have e : (sx x).length = x.length := rfl
    rw [e]
    simp
    exact h2
theorem od_strMul {K : PySem.W.Frag} : OpD K rStrMul strMulD := by
  intro Z s g σ H a b x y d Q sr ra rb e q
  cases a with
  | str x1 =>
    cases b with
    | int n =>
      simp only [strMulD] at e
      split at e
      · rename_i h
        cases e; cases ra; cases rb
        exact ⟨_, _, rfl, rfl, mulOk_of h.1 h.2.1 h.2.2, q _ H g (Gle.refl _) sr (rep_unS _)⟩
      · cases e
    | _ => cases e
  | _ => cases e

/-! ### dicts -/
def toKey (d : D) : Option Key := match d with | .int i => some (.inl i) | .str x => some (.inr (sx x)) | _ => none
theorem toKey_ok {K : PySem.W.Frag} {g : Gh} {σ : St} {d : D} {v : V} {k : Key} (r : repL K g σ d v) (h : toKey d = some k) : v = kV k := by
  cases d <;> first
    | (cases h; cases r; rfl)
    | (cases h; done)
def valD (kvs : List (Key × D)) (k : Key) : Option D := (kvs.find? fun kv => decide (kv.1 = k)).map (·.2)
theorem repK_val {K : PySem.W.Frag} {g : Gh} {k : Key} : ∀ {ds : List (Key × D)} {vs : List (Key × V)}, repK K g ds vs →
    (∀ d, valD ds k = some d → ∃ v, valV vs k = some v ∧ rep K g d v) ∧ (valD ds k = none → valV vs k = none)
  | [], _, h => by cases h; exact ⟨fun d e => (by cases e), fun _ => rfl⟩
  | (n, d) :: ds, vs, h => by
    obtain ⟨v, r, rfl, h1, h2⟩ := h
    obtain ⟨i1, i2⟩ := repK_val (k := k) h2
    by_cases e : n = k
    · refine ⟨fun d' e' => ?_, fun e' => ?_⟩
      · simp [valD, List.find?_cons, e] at e'
        subst e'
        exact ⟨v, valV_pos e, h1⟩
      · simp [valD, List.find?_cons, e] at e'
    · have hv : valD ((n, d) :: ds) k = valD ds k := by simp [valD, List.find?_cons, e]
      rw [hv, valV_neg (p := (n, v)) e]
      exact ⟨i1, i2⟩
def rdK (s : S) (d : D) : Option (List (Key × D)) := match dd s d with | some (.dct k) => some k | _ => none
def dgetD (s : S) (a b : D) : Option D := (rdK s a).bind fun kvs => (toKey b).bind fun k => valD kvs k
section
variable {X : Cx} {Z : En} {W : WX} {k : Nat} {o i e : Expr} {m1 m2 : M D} {pos : Pos}
theorem rdK_ok {K : PySem.W.Frag} {Z0 : En} {g : Gh} {H : Hp} {s : S} {σ : St} {d : D} {xs : List (Key × D)} {v : V} (sr : SR K Z0 s g σ H) (r : repL K g σ d v) (h : rdK s d = some xs) :
    ∃ a vs, v = .ref a ∧ H a = some (.dK vs) ∧ repK K g xs vs := by
  unfold rdK at h
  cases q : dd s d with
  | none => rw [q] at h; cases h
  | some e =>
    rw [q] at h
    have z := dd_rd sr r q
    cases e with
    | dct ys => cases h; exact z
    | _ => cases h
theorem d_dget (hu : X.A.units + 65 < cLine) (ho : PE X o (tD X.K Z W m1)) (hi : PE X i (tD X.K Z W m2)) (hs : NoSl i := by intro _ _; rfl) : PE X (.Subscript o i pos) (tD X.K Z W (binD dgetD m1 m2)) :=
  PE.weak (pe_dget (by omega) ho hi hs) fun σ H Q ⟨s, g, sr, e⟩ => goD isE sr e fun d1 s1 v1 H1 g1 l1 sr1 r1 e1 => goD isE sr1 e1 fun d2 s2 v2 H2 g2 l2 sr2 r2 e2 => by
    obtain ⟨d, hd, q⟩ := mopt_endE isE e2
    unfold dgetD at hd
    cases h1 : rdK s2 d1 with
    | none => rw [h1] at hd; cases hd
    | some kvs =>
      rw [h1] at hd
      cases h2 : toKey d2 with
      | none => rw [h2] at hd; cases hd
      | some ky =>
        rw [h2] at hd
        obtain ⟨a, vs, rfl, e2, e3⟩ := rdK_ok sr2 (repL_mono l2 r1) h1
        obtain ⟨v, k1, k2⟩ := (repK_val e3).1 d hd
        have := toKey_ok r2 h2
        subst this
        exact ⟨a, v, rfl, by rw [← k1]; exact DGet.k e2, q v H2 g2 (Gle.refl _) sr2 (repL_of k2)⟩
def dinD (neg : Bool) (s : S) (b a : D) : Option D := (rdK s a).bind fun kvs => (toKey b).map fun k => .bl (if neg then !(valD kvs k).isSome else (valD kvs k).isSome)
theorem isSome_of {K : PySem.W.Frag} {g : Gh} {ky : Key} {ds : List (Key × D)} {vs : List (Key × V)} (h : repK K g ds vs) : (valV vs ky).isSome = (valD ds ky).isSome := by
  obtain ⟨i1, i2⟩ := repK_val (k := ky) h
  cases q : valD ds ky with
  | none => rw [i2 q]; rfl
  | some d => obtain ⟨v, e, _⟩ := i1 d q; rw [e]; rfl
theorem dinD_of {neg : Bool} {t : TE → TE → TE} (ht : ∀ ty td : TE, ∀ σ H Q, (ty σ H fun y H1 => td σ H1 fun x H2 => ∃ a o, x = .ref a ∧ DGet H2 a y o ∧ Q (.bl (if neg then !o.isSome else o.isSome)) H2) → t ty td σ H Q) {K : PySem.W.Frag} {σ : St} {H : Hp} {Q : VK} (h : tD K Z W (binD (dinD neg) m1 m2) σ H Q) : t (tD K Z W m1) (tD K Z W m2) σ H Q := by
  obtain ⟨s, g, sr, e⟩ := h
  refine ht _ _ _ _ _ (goD isE sr e fun d1 s1 v1 H1 g1 l1 sr1 r1 e1 => goD isE sr1 e1 fun d2 s2 v2 H2 g2 l2 sr2 r2 e2 => ?_)
  obtain ⟨d, hd, q⟩ := mopt_endE isE e2
  unfold dinD at hd
  cases h1 : rdK s2 d2 with
  | none => rw [h1] at hd; cases hd
  | some kvs =>
    rw [h1] at hd
    cases h2 : toKey d1 with
    | none => rw [h2] at hd; cases hd
    | some ky =>
      rw [h2] at hd
      cases hd
      obtain ⟨a, vs, rfl, e2, e3⟩ := rdK_ok sr2 r2 h1
      have := toKey_ok (repL_mono l2 r1) h2
      subst this
      exact ⟨a, valV vs ky, rfl, DGet.k e2, q _ H2 g2 (Gle.refl _) sr2 (by rw [isSome_of e3]; rfl)⟩
theorem d_din (hu : X.A.units + 65 < cLine) (hi : PE X i (tD X.K Z W m1)) (ho : PE X o (tD X.K Z W m2)) (hm : behindInMarks .In o = false := by with_unfolding_all rfl) : PE X (.Compare i [.In] [o] pos) (tD X.K Z W (binD (dinD false) m1 m2)) :=
  PE.weak (pe_cmp (pc_din (by omega) hi ho) hm) fun σ H Q h => dinD_of (neg := false) (t := tDIn) (fun ty td σ H Q h => h) h
theorem d_dnin (hu : X.A.units + 65 < cLine) (hi : PE X i (tD X.K Z W m1)) (ho : PE X o (tD X.K Z W m2)) (hm : behindInMarks .NotIn o = false := by with_unfolding_all rfl) : PE X (.Compare i [.NotIn] [o] pos) (tD X.K Z W (binD (dinD true) m1 m2)) :=
  PE.weak (pe_cmp (pc_dnotin (by omega) hi ho) hm) fun σ H Q h => dinD_of (neg := true) (t := tDNotIn) (fun ty td σ H Q h => h) h
theorem t_din (hu : X.A.units + 65 < cLine) (hi : PE X i (tD X.K Z W m1)) (ho : PE X o (tD X.K Z W m2)) (hm : behindInMarks .In o = false := by with_unfolding_all rfl) : PT X (.Compare i [.In] [o] pos) (tT X.K Z W (tstB (binD (dinD false) m1 m2))) :=
  PT.weak (pt_cmp (pc_din (by omega) hi ho) hm) fun σ H Q h => tTest_of (fun h => dinD_of (neg := false) (t := tDIn) (fun ty td σ H Q h => h) h) h
theorem t_dnin (hu : X.A.units + 65 < cLine) (hi : PE X i (tD X.K Z W m1)) (ho : PE X o (tD X.K Z W m2)) (hm : behindInMarks .NotIn o = false := by with_unfolding_all rfl) : PT X (.Compare i [.NotIn] [o] pos) (tT X.K Z W (tstB (binD (dinD true) m1 m2))) :=
  PT.weak (pt_cmp (pc_dnotin (by omega) hi ho) hm) fun σ H Q h => tTest_of (fun h => dinD_of (neg := true) (t := tDNotIn) (fun ty td σ H Q h => h) h) h
end
end DL
end
section -- DH
set_option Elab.async false
set_option linter.all false
set_option maxRecDepth 100000
namespace DL
open PySem PySem.Spec L2

/-! ### what is owned, written -/
/-- what d owns (it may be written) -/
def ow (s : S) : D → Option Own
  | .loc i => match s.sl[i]? with | some (.own o) => some o | _ => none
  | .shr k => s.mu[k]?
  | _ => none
def putO (s : S) : D → Own → S
  | .loc i, o => { s with sl := s.sl.set i (.own o) }
  | .shr k, o => { s with mu := s.mu.set k o }
  | _, _ => s
section
variable {K : PySem.W.Frag} {Z0 : En} {g : Gh} {H : Hp} {s : S} {σ : St}
theorem SR.write {d : D} {v : V} {o o' : Own} {u : HO} (sr : SR K Z0 s g σ H) (r : repL K g σ d v) (e : ow s d = some o) (hk : ∀ C fs, o' = .obj C fs → ∃ C0 f0, o = .obj C0 f0 := by first | (intro C fs z; cases z; done) | (intro C fs z; exact ⟨_, _, rfl⟩)) :
    ∃ a, v = .ref a ∧ OwnRep K g H a o ∧ ((∀ H', H' a = some u → OwnRep K g H' a o') → SR K Z0 (putO s d o') g σ (upd H a u)) := by
  cases d with
  | loc i =>
    simp only [ow] at e
    cases q : s.sl[i]? with
    | none => rw [q] at e; cases e
    | some z =>
      rw [q] at e
      cases z with
      | own w =>
        cases e
        obtain ⟨a, h1, h2, h3, h4, h5⟩ := sr.own i o q
        have r : σ[i]? = some (some v) := r
        rw [r] at h1; cases h1
        refine ⟨a, rfl, h2, fun hw => ?_⟩
        have new : OwnRep K g (upd H a u) a o' := hw _ upd_same
        have hil : i < s.sl.length := (List.getElem?_eq_some_iff.mp q).1
        refine ⟨⟨fun b x e => ?_, sr.gr.len, fun k w b q1 q2 => ?_, sr.gr.nd⟩, ⟨sr.fr.le, fun b x e1 e2 => ?_, fun b e => ?_, sr.fr.frz, sr.fr.new⟩, fun j d q1 => ?_, fun j w q1 => ?_, fun j w q1 => ?_, fun j j2 w w2 b q1 q2 q3 q4 => ?_, by simpa [putO] using sr.len, fun j C fs q1 => ?_⟩
        · rw [upd_ne (fun z => by rw [z, h3] at e; cases e)]
          exact sr.gr.sub _ _ e
        · obtain ⟨z1, z2⟩ := sr.gr.st k w b q1 q2
          exact ⟨z1.mono (Gle.refl g) (upd_ne fun z => h4 (by rw [← z]; exact List.mem_of_getElem? q2)), z2⟩
        · have := sr.fr.keep b x e1 e2
          rw [upd_ne (fun z => by rw [z, h5] at e1; cases e1)]; exact this
        · by_cases hb : b = a
          · subst hb; rw [upd_same] at e; cases e
          · rw [upd_ne hb] at e; exact sr.fr.there b e
        · by_cases hj : j = i
          · subst hj
            have : (s.sl.set j (.own o'))[j]? = some (.dat d) := q1
            rw [List.getElem?_set_self hil] at this; cases this
          · have : (s.sl.set i (.own o'))[j]? = some (.dat d) := q1
            rw [List.getElem?_set_ne (Ne.symm hj)] at this
            exact sr.dat j d this
        · by_cases hj : j = i
          · subst hj
            have : (s.sl.set j (.own o'))[j]? = some (.own w) := q1
            rw [List.getElem?_set_self hil] at this; cases this
            exact ⟨a, r, new, h3, h4, h5⟩
          · have : (s.sl.set i (.own o'))[j]? = some (.own w) := q1
            rw [List.getElem?_set_ne (Ne.symm hj)] at this
            obtain ⟨b, k1, k2, k3, k4, k5⟩ := sr.own j w this
            refine ⟨b, k1, k2.mono (Gle.refl g) (upd_ne fun z => hj (sr.apart j i w o a this q (by rw [← z]; exact k1) r)), k3, k4, k5⟩
        · have hj : j ≠ i := fun z => by
            subst z
            have : (s.sl.set j (.own o'))[j]? = some (.bor w) := q1
            rw [List.getElem?_set_self hil] at this; cases this
          have : (s.sl.set i (.own o'))[j]? = some (.bor w) := q1
          rw [List.getElem?_set_ne (Ne.symm hj)] at this
          obtain ⟨b, k1, k2, k3, k4⟩ := sr.bor j w this
          exact ⟨b, k1, k2.mono (Gle.refl g) (upd_ne fun z => k4.1 (by rw [z]; exact h5)), k3, k4⟩
        · have n1 : ∀ {j : Nat} {w : Own}, (s.sl.set i (.own o'))[j]? = some (.own w) → ∃ w', s.sl[j]? = some (.own w') := fun {j w} z => by
            by_cases hj : j = i
            · subst hj; exact ⟨o, q⟩
            · rw [List.getElem?_set_ne (Ne.symm hj)] at z
              exact ⟨w, z⟩
          obtain ⟨y1, z1⟩ := n1 q1
          obtain ⟨y2, z2⟩ := n1 q2
          exact sr.apart j j2 y1 y2 b z1 z2 q3 q4
        · by_cases hj : j = i
          · subst hj
            have : (s.sl.set j (.own o'))[j]? = some (.own (.obj C fs)) := q1
            rw [List.getElem?_set_self hil] at this
            have eo : o' = .obj C fs := by injection this with this; injection this
            obtain ⟨C0, f0, e0⟩ := hk C fs eo
            exact sr.self j C0 f0 (by rw [q, e0])
          · have : (s.sl.set i (.own o'))[j]? = some (.own (.obj C fs)) := q1
            rw [List.getElem?_set_ne (Ne.symm hj)] at this
            exact sr.self j C fs this
      | _ => cases e
  | shr k =>
    simp only [ow] at e
    obtain ⟨a, e1, e2⟩ := r
    obtain ⟨h2, h3⟩ := sr.gr.st k o a e e2
    refine ⟨a, e1, h2, fun hw => ?_⟩
    have new : OwnRep K g (upd H a u) a o' := hw _ upd_same
    have hkl : k < s.mu.length := (List.getElem?_eq_some_iff.mp e).1
    have ha : a ∈ g.as := List.mem_of_getElem? e2
    refine ⟨⟨fun b x e => ?_, by simpa [putO] using sr.gr.len, fun k2 w b q1 q2 => ?_, sr.gr.nd⟩, ⟨sr.fr.le, fun b x e3 e4 => ?_, fun b e => ?_, sr.fr.frz, sr.fr.new⟩, sr.dat, fun j w q1 => ?_, fun j w q1 => ?_, sr.apart, sr.len, sr.self⟩
    · rw [upd_ne (fun z => by rw [z, h3] at e; cases e)]
      exact sr.gr.sub _ _ e
    · by_cases hk : k2 = k
      · subst hk
        have : (s.mu.set k2 o')[k2]? = some w := q1
        rw [List.getElem?_set_self hkl] at this; cases this
        rw [e2] at q2; cases q2
        exact ⟨new, h3⟩
      · have : (s.mu.set k o')[k2]? = some w := q1
        rw [List.getElem?_set_ne (Ne.symm hk)] at this
        obtain ⟨z1, z2⟩ := sr.gr.st k2 w b this q2
        exact ⟨z1.mono (Gle.refl g) (upd_ne fun z => hk (nd_ix sr.gr.nd (by rw [← z]; exact q2) e2)), z2⟩
    · have := sr.fr.keep b x e3 e4
      rw [upd_ne (fun z => ?_)]
      · exact this
      · subst z
        rcases sr.fr.new b ha with z | z
        · exact e4 z
        · rw [z] at e3; cases e3
    · by_cases hb : b = a
      · subst hb; rw [upd_same] at e; cases e
      · rw [upd_ne hb] at e; exact sr.fr.there b e
    · obtain ⟨b, k1, k2, k3, k4, k5⟩ := sr.own j w q1
      exact ⟨b, k1, k2.mono (Gle.refl g) (upd_ne fun z => k4 (by rw [z]; exact ha)), k3, k4, k5⟩
    · obtain ⟨b, k1, k2, k3, k4⟩ := sr.bor j w q1
      exact ⟨b, k1, k2.mono (Gle.refl g) (upd_ne fun z => k3 (by rw [z]; exact ha)), k3, k4⟩
  | _ => cases e
/-- a slot gets a datum -/
theorem SR.set {i : Nat} {d : D} {v : V} (sr : SR K Z0 s g σ H) (r : rep K g d v) : SR K Z0 { s with sl := s.sl.set i (.dat d) } g (σ.set i (some v)) H := by
  have ne : ∀ {j : Nat} {z : Sl}, (s.sl.set i (.dat d))[j]? = some z → j ≠ i → s.sl[j]? = some z := fun {j z} e h => by
    rwa [List.getElem?_set_ne (Ne.symm h)] at e
  refine ⟨sr.gr, sr.fr, fun j e q => ?_, fun j w q => ?_, fun j w q => ?_, fun j j2 w w2 b q1 q2 q3 q4 => ?_, by simp [sr.len], fun j C fs q => ?_⟩
  · by_cases hj : j = i
    · subst hj
      have hl : j < s.sl.length := by
        have := (List.getElem?_eq_some_iff.mp q).1
        simpa using this
      have q : (s.sl.set j (.dat d))[j]? = some (.dat e) := q
      rw [List.getElem?_set_self hl] at q
      cases q
      exact ⟨v, List.getElem?_set_self (by rw [← sr.len]; exact hl), r⟩
    · obtain ⟨w, k1, k2⟩ := sr.dat j e (ne q hj)
      exact ⟨w, by rw [List.getElem?_set_ne (Ne.symm hj)]; exact k1, k2⟩
  · have hj : j ≠ i := fun z => by
      subst z
      have hl : j < s.sl.length := by
        have := (List.getElem?_eq_some_iff.mp q).1
        simpa using this
      have q : (s.sl.set j (.dat d))[j]? = some (.own w) := q
      rw [List.getElem?_set_self hl] at q
      cases q
    obtain ⟨b, k1, k2⟩ := sr.own j w (ne q hj)
    exact ⟨b, by rw [List.getElem?_set_ne (Ne.symm hj)]; exact k1, k2⟩
  · have hj : j ≠ i := fun z => by
      subst z
      have hl : j < s.sl.length := by
        have := (List.getElem?_eq_some_iff.mp q).1
        simpa using this
      have q : (s.sl.set j (.dat d))[j]? = some (.bor w) := q
      rw [List.getElem?_set_self hl] at q
      cases q
    obtain ⟨b, k1, k2⟩ := sr.bor j w (ne q hj)
    exact ⟨b, by rw [List.getElem?_set_ne (Ne.symm hj)]; exact k1, k2⟩
  · have hn : ∀ {j : Nat} {w : Own}, (s.sl.set i (.dat d))[j]? = some (.own w) → j ≠ i := fun {j w} q z => by
      subst z
      have hl : j < s.sl.length := by
        have := (List.getElem?_eq_some_iff.mp q).1
        simpa using this
      rw [List.getElem?_set_self hl] at q
      cases q
    have h1 := hn q1
    have h2 := hn q2
    rw [List.getElem?_set_ne (Ne.symm h1)] at q3
    rw [List.getElem?_set_ne (Ne.symm h2)] at q4
    exact sr.apart j j2 w w2 b (ne q1 h1) (ne q2 h2) q3 q4
  · obtain ⟨hj, h1⟩ := sl_off (by intro o z; cases z) q
    obtain ⟨a, k1, k2⟩ := sr.self j C fs h1
    exact ⟨a, k1, by rw [List.getElem?_set_ne (Ne.symm hj)]; exact k2⟩
/-- a slot is forgotten -/
theorem SR.wipe1 {i : Nat} (sr : SR K Z0 s g σ H) : SR K Z0 { s with sl := s.sl.set i .non } g (σ.set i none) H := by
  have hn : ∀ {j : Nat} {z : Sl}, (s.sl.set i .non)[j]? = some z → z ≠ .non → j ≠ i := fun {j w} q y z => by
    subst z
    have hl : j < s.sl.length := by
      have := (List.getElem?_eq_some_iff.mp q).1
      simpa using this
    rw [List.getElem?_set_self hl] at q
    cases q
    exact y rfl
  have ne : ∀ {j : Nat} {z : Sl}, (s.sl.set i .non)[j]? = some z → j ≠ i → s.sl[j]? = some z := fun {j z} e h => by
    rwa [List.getElem?_set_ne (Ne.symm h)] at e
  refine ⟨sr.gr, sr.fr, fun j e q => ?_, fun j w q => ?_, fun j w q => ?_, fun j j2 w w2 b q1 q2 q3 q4 => ?_, by simp [sr.len], fun j C fs q => ?_⟩
  · have hj := hn q (by intro z; cases z)
    obtain ⟨w, k1, k2⟩ := sr.dat j e (ne q hj)
    exact ⟨w, by rw [List.getElem?_set_ne (Ne.symm hj)]; exact k1, k2⟩
  · have hj := hn q (by intro z; cases z)
    obtain ⟨b, k1, k2⟩ := sr.own j w (ne q hj)
    exact ⟨b, by rw [List.getElem?_set_ne (Ne.symm hj)]; exact k1, k2⟩
  · have hj := hn q (by intro z; cases z)
    obtain ⟨b, k1, k2⟩ := sr.bor j w (ne q hj)
    exact ⟨b, by rw [List.getElem?_set_ne (Ne.symm hj)]; exact k1, k2⟩
  · have h1 := hn q1 (by intro z; cases z)
    have h2 := hn q2 (by intro z; cases z)
    rw [List.getElem?_set_ne (Ne.symm h1)] at q3
    rw [List.getElem?_set_ne (Ne.symm h2)] at q4
    exact sr.apart j j2 w w2 b (ne q1 h1) (ne q2 h2) q3 q4
  · obtain ⟨hj, h1⟩ := sl_off (by intro o z; cases z) q
    obtain ⟨a, k1, k2⟩ := sr.self j C fs h1
    exact ⟨a, k1, by rw [List.getElem?_set_ne (Ne.symm hj)]; exact k2⟩
/-- a slot gets a new object of its own -/
theorem SR.setO {i : Nat} {p : Addr} {u : HO} {o : Own} (sr : SR K Z0 s g σ H) (n : H p = none) (r : OwnU K g u o) : SR K Z0 { s with sl := s.sl.set i (.own o) } g (σ.set i (some (.ref p))) (upd H p u) := by
  have gn : g.G p = none := by
    cases q : g.G p with
    | none => rfl
    | some x => have := sr.gr.sub _ _ q; rw [n] at this; cases this
  have n0 : Z0.H p = none := sr.fr.there p n
  have pn : p ∉ g.as := fun z => by
    obtain ⟨x, hx⟩ := sr.gr.mem z
    rw [n] at hx; cases hx
  have ne : ∀ {a : Addr} {o : Own}, OwnRep K g H a o → a ≠ p := fun {a o} h z => by
    obtain ⟨x, hx⟩ := h.some
    rw [z, n] at hx; cases hx
  have new : OwnRep K g (upd H p u) p o := by
    cases o with
    | lst ds => obtain ⟨vs, rfl, r⟩ := r; exact ⟨vs, upd_same, r⟩
    | dct ds => obtain ⟨vs, rfl, r⟩ := r; exact ⟨vs, upd_same, r⟩
    | obj _ _ => exact r.elim
  have off : ∀ {j : Nat} {z : Sl}, (s.sl.set i (.own o))[j]? = some z → j ≠ i → s.sl[j]? = some z := fun {j z} e h => by
    rwa [List.getElem?_set_ne (Ne.symm h)] at e
  have on : ∀ {z : Sl}, (s.sl.set i (.own o))[i]? = some z → z = .own o ∧ i < s.sl.length := fun {z} e => by
    have hl : i < s.sl.length := by
      have := (List.getElem?_eq_some_iff.mp e).1
      simpa using this
    rw [List.getElem?_set_self hl] at e
    cases e
    exact ⟨rfl, hl⟩
  refine ⟨⟨fun b x e => ?_, sr.gr.len, fun k w b q1 q2 => ?_, sr.gr.nd⟩, ⟨sr.fr.le, fun b x e1 e2 => ?_, fun b e => ?_, sr.fr.frz, sr.fr.new⟩, fun j d q1 => ?_, fun j w q1 => ?_, fun j w q1 => ?_, fun j j2 w w2 b q1 q2 q3 q4 => ?_, by simp [sr.len], fun j C fs q1 => ?_⟩
  · rw [upd_ne (fun z => by rw [z, gn] at e; cases e)]
    exact sr.gr.sub _ _ e
  · obtain ⟨z1, z2⟩ := sr.gr.st k w b q1 q2
    exact ⟨z1.mono (Gle.refl g) (upd_ne (ne z1)), z2⟩
  · have := sr.fr.keep b x e1 e2
    rw [upd_ne (fun z => by rw [z, n0] at e1; cases e1)]; exact this
  · by_cases hb : b = p
    · subst hb; rw [upd_same] at e; cases e
    · rw [upd_ne hb] at e; exact sr.fr.there b e
  · have hj : j ≠ i := fun z => by subst z; cases (on q1).1
    obtain ⟨w, k1, k2⟩ := sr.dat j d (off q1 hj)
    exact ⟨w, by rw [List.getElem?_set_ne (Ne.symm hj)]; exact k1, k2⟩
  · by_cases hj : j = i
    · subst hj
      obtain ⟨e1, hl⟩ := on q1
      cases e1
      exact ⟨p, List.getElem?_set_self (by rw [← sr.len]; exact hl), new, gn, pn, n0⟩
    · obtain ⟨b, k1, k2, k3⟩ := sr.own j w (off q1 hj)
      exact ⟨b, by rw [List.getElem?_set_ne (Ne.symm hj)]; exact k1, k2.mono (Gle.refl g) (upd_ne (ne k2)), k3⟩
  · have hj : j ≠ i := fun z => by subst z; cases (on q1).1
    obtain ⟨b, k1, k2, k3⟩ := sr.bor j w (off q1 hj)
    exact ⟨b, by rw [List.getElem?_set_ne (Ne.symm hj)]; exact k1, k2.mono (Gle.refl g) (upd_ne (ne k2)), k3⟩
  · have key : ∀ {j : Nat} {w : Own}, (s.sl.set i (.own o))[j]? = some (.own w) → (σ.set i (some (.ref p)))[j]? = some (some (.ref p)) → j = i := fun {j w} q e => by
      by_cases hj : j = i
      · exact hj
      · rw [List.getElem?_set_ne (Ne.symm hj)] at e
        obtain ⟨b, k1, k2, _⟩ := sr.own j w (off q hj)
        rw [e] at k1; cases k1
        exact absurd rfl (ne k2)
    by_cases hj : j = i
    · subst hj
      obtain ⟨_, hl⟩ := on q1
      rw [List.getElem?_set_self (by rw [← sr.len]; exact hl)] at q3
      cases q3
      exact (key q2 q4).symm
    · by_cases hj2 : j2 = i
      · subst hj2
        obtain ⟨_, hl⟩ := on q2
        rw [List.getElem?_set_self (by rw [← sr.len]; exact hl)] at q4
        cases q4
        exact key q1 q3
      · rw [List.getElem?_set_ne (Ne.symm hj)] at q3
        rw [List.getElem?_set_ne (Ne.symm hj2)] at q4
        exact sr.apart j j2 w w2 b (off q1 hj) (off q2 hj2) q3 q4
  · by_cases hj : j = i
    · subst hj
      obtain ⟨e1, _⟩ := on q1
      cases e1
      exact r.elim
    · obtain ⟨a, k1, k2⟩ := sr.self j C fs (off q1 hj)
      exact ⟨a, k1, by rw [List.getElem?_set_ne (Ne.symm hj)]; exact k2⟩
end

/-! ### statements -/
inductive Fl where
  | nx | rt (d : D) | bk | ct
def SEnd (K : PySem.W.Frag) (Z : En) (W : WX) (g : Gh) (D : Ends) (r : R Fl) : Prop := match r with
  | .ok .nx s => ∀ σ H' g', Gle g g' → SRz K Z s g' σ H' → D.nx σ H'
  | .ok .bk s => ∀ σ H' g', Gle g g' → SRz K Z s g' σ H' → D.bk σ H'
  | .ok .ct s => ∀ σ H' g', Gle g g' → SRz K Z s g' σ H' → D.ct σ H'
  | .ok (.rt d) s => ∀ v σ H' g', Gle g g' → SRz K Z s g' σ H' → rep K g' d v → D.rt v H'
  | .exc x s => ∀ σ, XEnd K Z W g σ x s
  | .bad => False
def tS (K : PySem.W.Frag) (Z : En) (W : WX) (m : M Fl) : TS := fun D σ H => ∃ s g, SRz K Z s g σ H ∧ SEnd K Z W g D (m s)
section
variable {K : PySem.W.Frag} {X : Cx} {Z : En} {W : WX} {g g' : Gh} {σ : St} {H : Hp} {s : S}
theorem SEnd.up {D : Ends} {r : R Fl} (m : Gle g g') (h : SEnd K Z W g D r) : SEnd K Z W g' D r := by
  cases r with
  | ok f s =>
    cases f with
    | nx => exact fun σ H' g2 m2 => h σ H' g2 (m.trans m2)
    | bk => exact fun σ H' g2 m2 => h σ H' g2 (m.trans m2)
    | ct => exact fun σ H' g2 m2 => h σ H' g2 (m.trans m2)
    | rt d => exact fun v σ H' g2 m2 => h v σ H' g2 (m.trans m2)
  | exc x s => exact fun σ => XEnd.up m (h σ)
  | bad => exact h
theorem isS {D : Ends} : IsEnd K Z W σ (fun g r => SEnd K Z W g D r) := ⟨fun m h => SEnd.up m h, fun h => h _, fun h => h⟩
variable {st : Stmt} {sts : List Stmt} {e c : Expr} {m : M D} {t : M Bool} {ma : M (List D)} {mo : M Own} {a b : M Fl} {pos pos' : Pos}
def sq (a b : M Fl) : M Fl := mb a fun f => match f with | .nx => b | f => mret f
theorem s_nil : PSs X [] (tS X.K Z W (mret .nx)) := PSs.weak pss_nil fun D σ H ⟨s, g, sr, e⟩ => e σ H g (Gle.refl _) sr
theorem tSeq_of {D : Ends} (h : tS K Z W (sq a b) D σ H) : tSeq (tS K Z W a) (tS K Z W b) D σ H := by
  obtain ⟨s, g, sr, e⟩ := h
  refine ⟨s, g, sr, ?_⟩
  unfold sq mb at e
  cases q : a s with
  | ok f s1 =>
    rw [q] at e
    cases f with
    | nx => exact fun σ' H' g' l sr' => ⟨s1, g', sr', SEnd.up l e⟩
    | bk => exact e
    | ct => exact e
    | rt d => exact e
  | exc x s1 => rw [q] at e; exact e
  | bad => rw [q] at e; exact e
theorem s_cons (h1 : PS X st (tS X.K Z W a)) (h2 : PSs X sts (tS X.K Z W b)) : PSs X (st :: sts) (tS X.K Z W (sq a b)) := PSs.weak (pss_cons h1 h2) fun D σ H h => tSeq_of h
theorem s_one (h1 : PS X st (tS X.K Z W a)) : PSs X [st] (tS X.K Z W a) := pss_one h1
theorem s_pass : PS X (.Pass pos) (tS X.K Z W (mret .nx)) := PS.weak ps_pass fun D σ H ⟨s, g, sr, e⟩ => e σ H g (Gle.refl _) sr
theorem s_break : PS X (.Break pos) (tS X.K Z W (mret .bk)) := PS.weak ps_break fun D σ H ⟨s, g, sr, e⟩ => e σ H g (Gle.refl _) sr
theorem s_cont : PS X (.Continue pos) (tS X.K Z W (mret .ct)) := PS.weak ps_continue fun D σ H ⟨s, g, sr, e⟩ => e σ H g (Gle.refl _) sr
def dropM (m : M D) : M Fl := mb m fun _ => mret .nx
theorem s_expr (he : PE X e (tD X.K Z W m)) (hs : swapsWith e none pos.line X.env = pure false := by rfl) : PS X (.Expr e pos) (tS X.K Z W (dropM m)) :=
  PS.weak (ps_expr he hs) fun D σ H ⟨s, g, sr, e⟩ => goD isS sr e fun d1 s1 v1 H1 g1 l1 sr1 r1 e1 => e1 σ H1 g1 (Gle.refl _) sr1
def retM (m : M D) : M Fl := mb m fun d => mb (fz d) fun x => mret (.rt x)
theorem s_ret (he : PE X e (tD X.K Z W m)) : PS X (.Return (some e) pos) (tS X.K Z W (retM m)) :=
  PS.weak (ps_ret he) fun D σ H ⟨s, g, sr, e⟩ => goD isS sr e fun d1 s1 v1 H1 g1 l1 sr1 r1 e1 => by
    obtain ⟨g2, d2, s2, l2, sr2, r2, e2⟩ := fz_end isS sr1 r1 e1
    exact e2 v1 σ H1 g2 (Gle.refl _) sr2 r2
theorem s_retN : PS X (.Return none pos) (tS X.K Z W (mret (.rt .non))) := PS.weak ps_retN fun D σ H ⟨s, g, sr, e⟩ => e .non σ H g (Gle.refl _) sr rfl
def ifM (t : M Bool) (a b : M Fl) : M Fl := mb t fun c => if c = true then a else b
theorem s_if {s1 s2 : List Stmt} (hc : PT X c (tT X.K Z W t)) (ha : PSs X s1 (tS X.K Z W a)) (hb : PSs X s2 (tS X.K Z W b)) : PS X (.If c s1 s2 pos) (tS X.K Z W (ifM t a b)) :=
  PS.weak (ps_if hc ha hb) fun D σ H ⟨s, g, sr, e⟩ => goT isS sr e fun d1 s1 H1 g1 l1 sr1 e1 => by
    cases d1 with
    | true => rw [if_pos rfl] at e1 ⊢; exact ⟨s1, g1, sr1, e1⟩
    | false => rw [if_neg Bool.false_ne_true] at e1 ⊢; exact ⟨s1, g1, sr1, e1⟩

/-! ### targets -/
/-- a target on data; I: the slots that are stored -/
def Off (I : List Nat) (σ σ' : St) : Prop := ∀ vs : List Nat, (∀ i ∈ I, i ∈ vs) → wipe σ' vs = wipe σ vs
theorem Off.refl {I : List Nat} (σ : St) : Off I σ σ := fun _ _ => rfl
theorem Off.trans {I J : List Nat} {a b c : St} (h : Off I a b) (k : Off J b c) : Off (I ++ J) a c := fun vs hv =>
  (k vs fun i hi => hv i (List.mem_append_right _ hi)).trans (h vs fun i hi => hv i (List.mem_append_left _ hi))
theorem wipe_get {σ : St} {j : Nat} : ∀ vs : List Nat, (wipe σ vs)[j]? = if j ∈ vs ∧ j < σ.length then some none else σ[j]?
  | [] => by simp [wipe]
  | v :: vs => by
    unfold wipe
    by_cases e : j = v
    · subst e
      by_cases hl : j < σ.length
      · rw [List.getElem?_set_self (by rw [wipe_length]; exact hl), if_pos ⟨by simp, hl⟩]
      · rw [if_neg (fun h => hl h.2)]
        have h1 : (wipe σ vs).length ≤ j := by rw [wipe_length]; omega
        rw [List.getElem?_eq_none (by simpa using h1), List.getElem?_eq_none (by omega)]
    · rw [List.getElem?_set_ne (Ne.symm e), wipe_get vs]
      simp [e]
theorem Off.set {i : Nat} {σ : St} {x : Option V} : Off [i] σ (σ.set i x) := fun vs hv => by
  refine List.ext_getElem? fun j => ?_
  rw [wipe_get, wipe_get, List.length_set]
  by_cases e : j = i
  · subst e
    by_cases hl : j < σ.length
    · rw [if_pos ⟨hv j (by simp), hl⟩, if_pos ⟨hv j (by simp), hl⟩]
    · rw [if_neg (fun h => hl h.2), if_neg (fun h => hl h.2), List.getElem?_eq_none (by simp; omega), List.getElem?_eq_none (by omega)]
  · rw [List.getElem?_set_ne (Ne.symm e)]
def tG (K : PySem.W.Frag) (Z : En) (I : List Nat) (f : D → S → Option S) : TG := fun v σ H Q => ∃ s g d, SRz K Z s g σ H ∧ rep K g d v ∧ ∃ s', f d s = some s' ∧ ∀ σ' H' g', Gle g g' → SRz K Z s' g' σ' H' → Off I σ σ' → Q σ' H'
def tGs (K : PySem.W.Frag) (Z : En) (I : List Nat) (f : List D → S → Option S) : TGs := fun vs σ H Q => ∃ s g ds, SRz K Z s g σ H ∧ reps K g ds vs ∧ ∃ s', f ds s = some s' ∧ ∀ σ' H' g', Gle g g' → SRz K Z s' g' σ' H' → Off I σ σ' → Q σ' H'
def gN (i : Nat) (d : D) (s : S) : Option S := some { s with sl := s.sl.set i (.dat d) }
theorem PG.weak {tg : Expr} {t t' : TG} (h : PG X tg t) (hw : ∀ v σ H Q, t' v σ H Q → t v σ H Q) : PG X tg t' := ⟨fun pins s σ H v u Q I r q => h.run pins s σ H v u Q I r (hw v σ H Q q)⟩
theorem PGs.weak {tg : List Expr} {t t' : TGs} (h : PGs X tg t) (hw : ∀ v σ H Q, t' v σ H Q → t v σ H Q) : PGs X tg t' := ⟨fun pins s σ H v u Q I r q => h.run pins s σ H v u Q I r (hw v σ H Q q)⟩
theorem g_name {i : Nat} {x : Str} (hN : X.N.Nodup) (hi : X.N[i]? = some x) (hx : Loc X.env.scope x) (hf : X.fn x = true ∨ X.env.scope.names.lookup x = some .local := by first | exact .inl rfl | exact .inr rfl | assumption) : PG X (.Name x pos) (tG X.K Z [i] (gN i)) :=
  PG.weak (pg_name hN hi hx hf) fun v σ H Q ⟨s, g, d, sr, r, s', e, q⟩ => by
    cases e
    exact q _ _ g (Gle.refl _) (sr.set r) Off.set
def gNil' (ds : List D) (s : S) : Option S := match ds with | [] => some s | _ => none
def gCons' (f : D → S → Option S) (h : List D → S → Option S) (ds : List D) (s : S) : Option S := match ds with | d :: r => (f d s).bind fun s1 => h r s1 | _ => none
theorem gs_nil : PGs X [] (tGs X.K Z [] gNil') :=
  PGs.weak pgs_nil fun vs σ H Q ⟨s, g, ds, sr, r, s', e, q⟩ => by
    cases ds with
    | nil => cases e; cases r; exact ⟨rfl, q σ H g (Gle.refl _) sr (Off.refl _)⟩
    | cons d ds => cases e
theorem gs_cons {tg : Expr} {tgs : List Expr} {I J : List Nat} {f : D → S → Option S} {h : List D → S → Option S} (h1 : PG X tg (tG X.K Z I f)) (h2 : PGs X tgs (tGs X.K Z J h))
    (hs : (assignEach (tg :: tgs) X.env).map (·.2) = assign tg X.env :: (assignEach tgs X.env).map (·.2) := by rfl) : PGs X (tg :: tgs) (tGs X.K Z (I ++ J) (gCons' f h)) :=
  PGs.weak (pgs_cons h1 h2 hs) fun vs σ H Q ⟨s, g, ds, sr, r, s', e, q⟩ => by
    cases ds with
    | nil => cases e
    | cons d ds =>
      obtain ⟨v, vr, rfl, r1, r2⟩ := r
      simp only [gCons'] at e
      cases hf : f d s with
      | none => rw [hf] at e; cases e
      | some s1 =>
        rw [hf] at e
        exact ⟨v, vr, rfl, s, g, d, sr, r1, s1, hf, fun σ1 H1 g1 l1 sr1 o1 => ⟨s1, g1, ds, sr1, reps_mono l1 _ _ r2, s', e, fun σ2 H2 g2 l2 sr2 o2 => q σ2 H2 g2 (l1.trans l2) sr2 (o1.trans o2)⟩⟩
def gT (n : Nat) (h : List D → S → Option S) (d : D) (s : S) : Option S := match d with | .tup xs => if xs.length = n then h xs s else none | _ => none
theorem g_tup {es : List Expr} {I : List Nat} {k : Nat} {h : List D → S → Option S} {n : Nat} (hc : X.calm = true) (hh : PGs X es (tGs X.K Z I h))
    (hn : (assignEach es X.env).length = n := by rfl) (hst : (assignEach es X.env).findIdx? (·.1) = none := by rfl) : PG X (.Tuple es k pos) (tG X.K Z I (gT n h)) :=
  PG.weak (pg_tup hc hh hn hst) fun v σ H Q ⟨s, g, d, sr, r, s', e, q⟩ => by
    cases d with
    | tup xs =>
      simp only [gT] at e
      split at e
      · rename_i hl
        obtain ⟨a, vs, rfl, e2, e3⟩ := r
        exact ⟨a, vs, rfl, SqT.mono sr.gr.sub e2, by rw [reps_length e3]; exact hl, s, g, xs, sr, e3, s', e, q⟩
      · cases e
    | _ => cases e
/-! ### assignments -/
def asgM (m : M D) (f : D → S → Option S) : M Fl := mb m fun d => mb (fz d) fun x => fun s => match f x s with | some s' => .ok .nx s' | none => .bad
theorem asg_end {N : Ends} {I : List Nat} {d1 : D} {s1 : S} {g1 : Gh} {H1 : Hp} {v1 : V} {f : D → S → Option S} (sr1 : SRz K Z s1 g1 σ H1) (r1 : repL K g1 σ d1 v1) (e1 : SEnd K Z W g1 N (mb (fz d1) (fun x => fun s => match f x s with | some s' => R.ok Fl.nx s' | none => R.bad) s1)) : tG K Z I f v1 σ H1 N.nx := by
  obtain ⟨g2, d2, s2, l2, sr2, r2, e2⟩ := fz_end isS sr1 r1 e1
  cases q : f d2 s2 with
  | none => rw [q] at e2; exact e2.elim
  | some s3 =>
    rw [q] at e2
    exact ⟨s2, g2, d2, sr2, r2, s3, q, fun σ' H' g' l sr' _ => e2 σ' H' g' l sr'⟩
theorem s_asg {tg : Expr} {I : List Nat} {f : D → S → Option S} (he : PE X e (tD X.K Z W m)) (hg : PG X tg (tG X.K Z I f)) (hs : swapsWithSole [tg] e pos.line X.env = pure false := by rfl) (hw : swappedStores [tg] e X.env = pure none := by rfl)
    (h1 : (assignEach [tg] X.env).map (·.2) = [assign tg X.env] := by rfl) : PS X (.Assign [tg] e pos) (tS X.K Z W (asgM m f)) :=
  PS.weak (ps_asg he hg hs hw h1) fun D σ H ⟨s, g, sr, e⟩ => goD isS sr e fun d1 s1 v1 H1 g1 l1 sr1 r1 e1 => asg_end (I := I) sr1 r1 e1
theorem s_set {i : Nat} {x : Str} (hN : X.N.Nodup) (hi : X.N[i]? = some x) (hx : Loc X.env.scope x) (he : PE X e (tD X.K Z W m)) (hs : swapsWith e (some (.Name x pos')) pos.line X.env = pure false := by rfl) (hf : X.fn x = true ∨ X.env.scope.names.lookup x = some .local := by first | exact .inl rfl | exact .inr rfl | assumption) :
    PS X (.Assign [.Name x pos'] e pos) (tS X.K Z W (asgM m (gN i))) :=
  PS.weak (ps_set hN hi hx he hs hf) fun D σ H ⟨s, g, sr, e⟩ => goD isS sr e fun d1 s1 v1 H1 g1 l1 sr1 r1 e1 => by
    obtain ⟨s2, g2, d2, sr2, r2, s3, q, k⟩ := asg_end (I := [i]) (f := gN i) sr1 r1 e1
    cases q
    exact k _ _ g2 (Gle.refl _) (sr2.set r2) Off.set
/-- name = a new list or dict, owned -/
def setO (i : Nat) (m : M Own) : M Fl := mb m fun o => fun s => .ok .nx { s with sl := s.sl.set i (.own o) }
theorem setO_of {t : TE} {i : Nat} (ht : ∀ {σ H Q}, tF K Z W mo σ H Q → t σ H Q) {D : Ends} (h : tS K Z W (setO i mo) D σ H) : tAsg t (gName i) D σ H := by
  obtain ⟨s, g, sr, e⟩ := h
  refine ht ⟨s, g, sr, ?_⟩
  unfold setO mb at e
  cases q : mo s with
  | ok o s' =>
    rw [q] at e
    intro p u H' g' le sr' n r
    exact e _ _ g' le (sr'.setO n r)
  | exc x s' => rw [q] at e; exact e σ
  | bad => rw [q] at e; exact e
theorem s_setO {i : Nat} {x : Str} (hN : X.N.Nodup) (hi : X.N[i]? = some x) (hx : Loc X.env.scope x) (he : PE X e (tF X.K Z W mo)) (hs : swapsWith e (some (.Name x pos')) pos.line X.env = pure false := by rfl) (hf : X.fn x = true ∨ X.env.scope.names.lookup x = some .local := by first | exact .inl rfl | exact .inr rfl | assumption) :
    PS X (.Assign [.Name x pos'] e pos) (tS X.K Z W (setO i mo)) :=
  PS.weak (ps_set hN hi hx he hs hf) fun D σ H h => setO_of (fun h => h) h
/-- name += int -/
def augI (i : Nat) (m : M D) (f : Int → Int → Int) : M Fl := fun s => match s.sl[i]? with
  | some (.dat (.int a)) => mb m (fun y => fun s => match y with | .int b => .ok .nx { s with sl := s.sl.set i (.dat (.int (f a b))) } | _ => .bad) s
  | _ => .bad
theorem s_aug {i : Nat} {x : Str} {op : Operator} {f : Int → Int → Int} (hN : X.N.Nodup) (hi : X.N[i]? = some x) (hx : Loc X.env.scope x) (he : PE X e (tD X.K Z W m)) (ho : PIp X op (ipI f)) (hf : X.fn x = true ∨ X.env.scope.names.lookup x = some .local := by first | exact .inl rfl | exact .inr rfl | assumption) :
    PS X (.AugAssign (.Name x pos') op e pos) (tS X.K Z W (augI i m f)) :=
  PS.weak (ps_aug hN hi hx he ho hf) fun D σ H ⟨s, g, sr, e⟩ => by
    unfold augI at e
    split at e
    · rename_i a q
      obtain ⟨v, h1, h2⟩ := sr.dat i _ q
      cases h2
      refine ⟨_, h1, goD isS sr e fun d1 s1 v1 H1 g1 l1 sr1 r1 e1 => ?_⟩
      cases d1 with
      | int b =>
        exact ⟨a, b, rfl, r1, e1 _ _ g1 (Gle.refl _) (sr1.set rfl)⟩
      | _ => exact e1.elim
    · exact e.elim
end
end DL
end
section -- DI
set_option Elab.async false
set_option linter.all false
set_option maxRecDepth 100000
namespace DL
open PySem PySem.Spec L2

/-! ### lists that are changed -/
section
variable {X : Cx} {Z : En} {W : WX} {k : Nat} {o e : Expr} {es : List Expr} {mo : M D} {ma : M (List D)} {apos cpos : Pos}
def rdLM (x : D) : M (List D) := mopt fun s => rdL s x
def apM (mo : M D) (ma : M (List D)) : M D := mb mo fun x => mb (rdLM x) fun _ => mb ma fun ys => mb (fzs ys) fun zs => fun s => match zs, ow s x with
  | [z], some (.lst xs) => if xs.length < sizeLine then .ok .non (putO s x (.lst (xs ++ [z]))) else .bad
  | _, _ => .bad
theorem d_append (ho : PE X o (tD X.K Z W mo)) (ha : PA X (e :: es) (tA X.K Z W ma)) (hbase : attributeBase o "append" X.env (eval o X.env) = eval o X.env := by rfl)
    (hfew : ((backTo cpos (starEach (e :: es) X.env)).all (fun x => !x.1) && (backToKw cpos (keywordEach [] X.env)).all (fun x => x.1.isSome) && decide ((e :: es).length + ([] : List Keyword).length + (if ([] : List Keyword).isEmpty then 0 else 1) < 30)) = true := by rfl)
    (hline : (apos.endLine == cpos.line) = true := by rfl) (hs : starEach (e :: es) X.env = (false, eval e X.env) :: starEach es X.env := by rfl) (hplain : (backTo cpos (starEach es X.env)).any (·.1) = false := by rfl) :
    PE X (.Call (.Attribute o "append" apos) (e :: es) [] cpos) (tD X.K Z W (apM mo ma)) :=
  PE.weak (pe_bm PySem.F.plainAttrs_list PySem.F.slot_list_append PySem.F.type_list_append mt_append ho ha hbase hfew hline hs hplain) fun σ H Q ⟨s, g, sr, e⟩ => goD isE sr e fun d1 s1 v1 H1 g1 l1 sr1 r1 e1 => by
    obtain ⟨xs0, hx, e1⟩ := mopt_end isE e1
    obtain ⟨a0, vs0, hv, hl0, _⟩ := rdL_ok sr1 r1 hx
    subst hv
    refine ⟨.inl ⟨rfl, _, SqL.of hl0⟩, goA isE sr1 e1 fun ds s2 us H2 g2 l2 sr2 r2 e2 => ?_⟩
    obtain ⟨g3, zs, s3, l3, sr3, r3, e3⟩ := fzs_end isE sr2 r2 e2
    split at e3
    · rename_i z xs ho'
      obtain ⟨y, rfl, ry⟩ : ∃ y, us = [y] ∧ rep X.K g3 z y := by
        obtain ⟨y, r, rfl, h1, h2⟩ := r3
        cases h2
        exact ⟨y, rfl, h1⟩
      split at e3
      · rename_i hlen
        obtain ⟨_, ea, ⟨vs, h1, h2⟩, _⟩ := SR.write (o' := .lst (xs ++ [z])) (u := .lst (vs0 ++ [y])) sr3 (repL_mono (l2.trans l3) r1) ho'
        cases ea
        obtain ⟨_, eb, _, put⟩ := SR.write (o' := .lst (xs ++ [z])) (u := .lst (vs ++ [y])) sr3 (repL_mono (l2.trans l3) r1) ho'
        cases eb
        exact ⟨a0, vs, y, rfl, rfl, h1, by rw [reps_length h2]; exact hlen, e3 .non _ g3 (Gle.refl _) (put fun H' h => ⟨vs ++ [y], h, reps_append h2 (reps_one ry)⟩) rfl⟩
      · exact e3.elim
    · exact e3.elim
def popM (mo : M D) : M D := mb mo fun x => mb (rdLM x) fun _ => fun s => match ow s x with
  | some (.lst xs) => match xs[xs.length - 1]? with
    | some z => .ok z (putO s x (.lst xs.dropLast))
    | none => .bad
  | _ => .bad
theorem reps_dropLast {K : PySem.W.Frag} {g : Gh} {ds : List D} {vs : List V} (h : reps K g ds vs) : reps K g ds.dropLast vs.dropLast := by
  rw [List.dropLast_eq_take, List.dropLast_eq_take, reps_length h]
  exact reps_take _ h
theorem d_pop (ho : PE X o (tD X.K Z W mo)) (hbase : attributeBase o "pop" X.env (eval o X.env) = eval o X.env := by rfl) (hline : (apos.endLine == cpos.line) = true := by rfl) :
    PE X (.Call (.Attribute o "pop" apos) [] [] cpos) (tD X.K Z W (popM mo)) :=
  PE.weak (pe_bm0 PySem.F.plainAttrs_list PySem.F.slot_list_pop PySem.F.type_list_pop mt_pop ho hbase hline) fun σ H Q ⟨s, g, sr, e⟩ => goD isE sr e fun d1 s1 v1 H1 g1 l1 sr1 r1 e1 => by
    obtain ⟨xs0, hx, e1⟩ := mopt_end isE e1
    obtain ⟨a0, vs0, hv, hl0, _⟩ := rdL_ok sr1 r1 hx
    subst hv
    refine ⟨.inl ⟨rfl, _, SqL.of hl0⟩, ?_⟩
    split at e1
    · rename_i xs ho'
      split at e1
      · rename_i z hz
        obtain ⟨a, ea, ⟨vs, h1, h2⟩, put⟩ := SR.write (o' := .lst xs.dropLast) (u := .lst vs0.dropLast) sr1 r1 ho'
        cases ea
        rw [hl0] at h1
        cases h1
        obtain ⟨y, hy, ry⟩ := reps_get h2 hz
        exact ⟨a0, vs0, y, rfl, rfl, hl0, by rw [reps_length h2]; exact hy, e1 y _ g1 (Gle.refl _) (put fun H' h => ⟨vs0.dropLast, h, reps_dropLast h2⟩) (repL_of ry)⟩
      · exact e1.elim
    · exact e1.elim
def popAtM (mo : M D) (ma : M (List D)) : M D := mb mo fun x => mb (rdLM x) fun _ => mb ma fun ys => fun s => match ys, ow s x with
  | [.int i], some (.lst xs) => if -(2 ^ 62) < i ∧ i < 2 ^ 62 then match seqIndex? i xs.length with
    | some j => match xs[j]? with
      | some z => .ok z (putO s x (.lst (xs.eraseIdx j)))
      | none => .bad
    | none => .bad else .bad
  | _, _ => .bad
theorem d_popAt (ho : PE X o (tD X.K Z W mo)) (ha : PA X (e :: es) (tA X.K Z W ma)) (hbase : attributeBase o "pop" X.env (eval o X.env) = eval o X.env := by rfl)
    (hfew : ((backTo cpos (starEach (e :: es) X.env)).all (fun x => !x.1) && (backToKw cpos (keywordEach [] X.env)).all (fun x => x.1.isSome) && decide ((e :: es).length + ([] : List Keyword).length + (if ([] : List Keyword).isEmpty then 0 else 1) < 30)) = true := by rfl)
    (hline : (apos.endLine == cpos.line) = true := by rfl) (hs : starEach (e :: es) X.env = (false, eval e X.env) :: starEach es X.env := by rfl) (hplain : (backTo cpos (starEach es X.env)).any (·.1) = false := by rfl) :
    PE X (.Call (.Attribute o "pop" apos) (e :: es) [] cpos) (tD X.K Z W (popAtM mo ma)) :=
  PE.weak (pe_bm PySem.F.plainAttrs_list PySem.F.slot_list_pop PySem.F.type_list_pop mt_popAt ho ha hbase hfew hline hs hplain) fun σ H Q ⟨s, g, sr, e⟩ => goD isE sr e fun d1 s1 v1 H1 g1 l1 sr1 r1 e1 => by
    obtain ⟨xs0, hx, e1⟩ := mopt_end isE e1
    obtain ⟨a0, vs0, hv, hl0, _⟩ := rdL_ok sr1 r1 hx
    subst hv
    refine ⟨.inl ⟨rfl, _, SqL.of hl0⟩, goA isE sr1 e1 fun ds s2 us H2 g2 l2 sr2 r2 e2 => ?_⟩
    split at e2
    · rename_i i xs ho'
      have hus := repLs_int1 r2
      subst hus
      split at e2
      · rename_i hi
        split at e2
        · rename_i j hj
          split at e2
          · rename_i z hz
            obtain ⟨a, ea, ⟨vs, h1, h2⟩, _⟩ := SR.write (o' := .lst (xs.eraseIdx j)) (u := .lst vs0) sr2 (repL_mono l2 r1) ho'
            cases ea
            obtain ⟨_, eb, ⟨vs', h1', _⟩, put⟩ := SR.write (o' := .lst (xs.eraseIdx j)) (u := .lst (vs.eraseIdx j)) sr2 (repL_mono l2 r1) ho'
            cases eb
            obtain ⟨y, hy, ry⟩ := reps_get h2 hz
            exact ⟨a0, vs, i, j, y, rfl, rfl, h1, by omega, by omega, by rw [reps_length h2]; exact hj, hy, e2 y _ g2 (Gle.refl _) (put fun H' h => ⟨vs.eraseIdx j, h, reps_erase j h2⟩) (repL_of ry)⟩
          · exact e2.elim
        · exact e2.elim
      · exact e2.elim
    · exact e2.elim
end

/-! ### fields and items that are stored -/
section
variable {X : Cx} {Z : En} {W : WX} {k : Nat} {o i value : Expr} {mo mi mv : M D} {f : Str} {C : Addr} {pos pos' : Pos}
def fldS (C : Addr) (f : Str) (mo mv : M D) : M Fl := mb mv fun y => mb mo fun x => mb (fz y) fun z => fun s => match ow s x with
  | some (.obj C' fs) => if C' = C ∧ fs.length < 1000 then .ok .nx (putO s x (.obj C' (putD f z fs))) else .bad
  | _ => .bad
theorem s_fld (ho : PE X o (tD X.K Z W mo)) (hv : PE X value (tD X.K Z W mv)) (cl : Cls X.K C) (n : NoAttr X.K C f) (hs : swapsWith value (some (.Attribute o f pos')) pos.line X.env = pure false := by rfl) :
    PS X (.Assign [.Attribute o f pos'] value pos) (tS X.K Z W (fldS C f mo mv)) :=
  PS.weak (ps_fld ho hv hs) fun D σ H ⟨s, g, sr, e⟩ => goD isS sr e fun d1 s1 v1 H1 g1 l1 sr1 r1 e1 => goD isS sr1 e1 fun d2 s2 v2 H2 g2 l2 sr2 r2 e2 => by
    obtain ⟨g3, d3, s3, l3, sr3, r3, e3⟩ := fz_end isS sr2 (repL_mono l2 r1) e2
    split at e3
    · rename_i C' fs ho'
      split at e3
      · rename_i hC
        obtain ⟨rfl, hlen⟩ := hC
        obtain ⟨a, ea, ⟨dx, vs, h1, h2⟩, _⟩ := SR.write (o' := .obj C' (putD f d3 fs)) (u := .lst []) sr3 (repL_mono l3 r2) ho'
        subst ea
        obtain ⟨_, eb, _, put⟩ := SR.write (o' := .obj C' (putD f d3 fs)) (u := .ins C' dx (putF f v1 vs)) sr3 (repL_mono l3 r2) ho'
        cases eb
        exact ⟨a, C', dx, vs, rfl, h1, cl, n, by rw [repF_length h2]; exact hlen, e3 σ _ g3 (Gle.refl _) (put fun H' h => ⟨dx, _, h, repF_put r3 h2⟩)⟩
      · exact e3.elim
    · exact e3.elim
def putK' (kvs : List (Key × D)) (k : Key) (v : D) : List (Key × D) :=
  if (kvs.any fun kv => decide (kv.1 = k)) = true then kvs.map (fun kv => if kv.1 = k then (kv.1, v) else kv) else kvs ++ [(k, v)]
theorem repK_any {K : PySem.W.Frag} {g : Gh} {ky : Key} : ∀ {ds : List (Key × D)} {vs : List (Key × V)}, repK K g ds vs → (vs.any fun kv => decide (kv.1 = ky)) = ds.any fun kv => decide (kv.1 = ky)
  | [], _, h => by cases h; rfl
  | (n, d) :: ds, vs, h => by
    obtain ⟨v, r, rfl, h1, h2⟩ := h
    simp only [List.any_cons, repK_any h2]
theorem repK_map {K : PySem.W.Frag} {g : Gh} {ky : Key} {d : D} {v : V} (r : rep K g d v) : ∀ {ds : List (Key × D)} {vs : List (Key × V)}, repK K g ds vs → repK K g (ds.map fun kv => if kv.1 = ky then (kv.1, d) else kv) (vs.map fun kv => if kv.1 = ky then (kv.1, v) else kv)
  | [], _, h => by cases h; rfl
  | (n, x) :: ds, vs, h => by
    obtain ⟨u, w, rfl, h1, h2⟩ := h
    have ih := repK_map (ky := ky) r h2
    by_cases e : n = ky
    · simp only [List.map_cons, if_pos e]
      exact ⟨v, _, rfl, r, ih⟩
    · simp only [List.map_cons, if_neg e]
      exact ⟨u, _, rfl, h1, ih⟩
theorem repK_append {K : PySem.W.Frag} {g : Gh} {ky : Key} {d : D} {v : V} (r : rep K g d v) : ∀ {ds : List (Key × D)} {vs : List (Key × V)}, repK K g ds vs → repK K g (ds ++ [(ky, d)]) (vs ++ [(ky, v)])
  | [], _, h => by cases h; exact ⟨v, [], rfl, r, rfl⟩
  | (n, x) :: ds, vs, h => by
    obtain ⟨u, w, rfl, h1, h2⟩ := h
    exact ⟨u, _, rfl, h1, repK_append r h2⟩
theorem repK_put {K : PySem.W.Frag} {g : Gh} {ky : Key} {d : D} {v : V} {ds : List (Key × D)} {vs : List (Key × V)} (r : rep K g d v) (h : repK K g ds vs) : repK K g (putK' ds ky d) (putK vs ky v) := by
  unfold putK' putK
  rw [repK_any h]
  split
  · exact repK_map r h
  · exact repK_append r h
def ixS (mo mi mv : M D) : M Fl := mb mv fun y => mb mo fun x => mb mi fun j => mb (fz y) fun z => fun s => match ow s x, toKey j with
  | some (.dct kvs), some k => if kvs.length < sizeLine then .ok .nx (putO s x (.dct (putK' kvs k z))) else .bad
  | _, _ => .bad
theorem s_dput (hu : X.A.units + 65 < cLine) (ho : PE X o (tD X.K Z W mo)) (hi : PE X i (tD X.K Z W mi)) (hv : PE X value (tD X.K Z W mv)) (hs : swapsWith value (some (.Subscript o i pos')) pos.line X.env = pure false := by rfl) :
    PS X (.Assign [.Subscript o i pos'] value pos) (tS X.K Z W (ixS mo mi mv)) :=
  PS.weak (ps_dput (by omega) ho hi hv hs) fun D σ H ⟨s, g, sr, e⟩ => goD isS sr e fun d1 s1 v1 H1 g1 l1 sr1 r1 e1 => goD isS sr1 e1 fun d2 s2 v2 H2 g2 l2 sr2 r2 e2 => goD isS sr2 e2 fun d3 s3 v3 H3 g3 l3 sr3 r3 e3 => by
    obtain ⟨g4, d4, s4, l4, sr4, r4, e4⟩ := fz_end isS sr3 (repL_mono (l2.trans l3) r1) e3
    split at e4
    · rename_i kvs ky ho' hk
      split at e4
      · rename_i hlen
        obtain ⟨a, ea, ⟨vs, h1, h2⟩, _⟩ := SR.write (o' := .dct (putK' kvs ky d4)) (u := .lst []) sr4 (repL_mono (l3.trans l4) r2) ho'
        subst ea
        obtain ⟨_, eb, _, put⟩ := SR.write (o' := .dct (putK' kvs ky d4)) (u := .dK (putK vs ky v1)) sr4 (repL_mono (l3.trans l4) r2) ho'
        cases eb
        have := toKey_ok r3 hk
        subst this
        exact ⟨a, _, rfl, DPut.k h1 (by rw [repK_length h2]; exact hlen), e4 σ _ g4 (Gle.refl _) (put fun H' h => ⟨_, h, repK_put r4 h2⟩)⟩
      · exact e4.elim
    · exact e4.elim
end
end DL
end
section -- DJ
set_option Elab.async false
set_option linter.all false
set_option maxRecDepth 100000
namespace DL
open PySem PySem.Spec L2

/-! ### what is walked -/
structure DW (K : PySem.W.Frag) (g0 : Gh) (J : It) (ds : List D) : Prop where
  goes : ∀ (i : Nat) (g : Gh) (H : Hp), Gle g0 g → Sm g.G H → i < ds.length → J.go i H
  stops : ∀ (g : Gh) (H : Hp), Gle g0 g → Sm g.G H → J.stop ds.length H
  yields : ∀ {Z : En} {s : S} {g : Gh} {σ : St} {H : Hp} {i : Nat} {d : D} {x : V} {H' : Hp}, Gle g0 g → SR K Z s g σ H → ds[i]? = some d → J.yld i H x H' → ∃ g', Gle g g' ∧ SR K Z s g' σ H' ∧ rep K g' d x
def IEnd (K : PySem.W.Frag) (Z : En) (W : WX) (g : Gh) (σ : St) (R' : It → Hp → Prop) (r : R (List D)) : Prop := match r with
  | .ok ds s => ∀ J H' g', Gle g g' → SRz K Z s g' σ H' → DW K g' J ds → R' J H'
  | .exc x s => XEnd K Z W g σ x s
  | .bad => False
def tI (K : PySem.W.Frag) (Z : En) (W : WX) (m : M (List D)) : TI := fun σ H R => ∃ s g, SRz K Z s g σ H ∧ IEnd K Z W g σ R (m s)
section
variable {K : PySem.W.Frag} {X : Cx} {Z : En} {W : WX} {g g' : Gh} {σ : St} {H : Hp} {s : S} {tg iter e : Expr} {es : List Expr} {m : M D} {ma : M (List D)} {pos p : Pos}
theorem isI {R' : It → Hp → Prop} : IsEnd K Z W σ (fun g r => IEnd K Z W g σ R' r) := ⟨fun {g g' r} m h => by
  cases r with
  | ok d s => exact fun J H' g2 m2 => h J H' g2 (m.trans m2)
  | exc x s => exact XEnd.up m h
  | bad => exact h, fun h => h, fun h => h⟩
theorem PI.weak {t t' : TI} (h : PI X tg iter t) (hw : ∀ σ H R, t' σ H R → t σ H R) : PI X tg iter t' := ⟨fun pins s σ H R I q => h.run pins s σ H R I (hw σ H R q)⟩
theorem PI.or {t t' : TI} (h : PI X tg iter t) (h' : PI X tg iter t') : PI X tg iter (fun σ H R => t σ H R ∨ t' σ H R) := ⟨fun pins s σ H R I q => q.elim (h.run pins s σ H R I) (h'.run pins s σ H R I)⟩
theorem dw_list {a : Addr} {vs : List V} {ds : List D} (e : g.G a = some (.lst vs)) (r : reps K g ds vs) : DW K g (Itl K a) ds := by
  refine ⟨fun i g1 H l sm hi => ?_, fun g1 H l sm => ?_, fun {Z s g1 σ H i d x H'} l sr hd y => ?_⟩
  · have hi' : i < vs.length := by rw [reps_length r]; exact hi
    exact ⟨vs, vs[i], SqL.of (sm _ _ (l.1 _ _ e)), List.getElem?_eq_getElem hi'⟩
  · exact ⟨vs, SqL.of (sm _ _ (l.1 _ _ e)), by rw [reps_length r]; exact Nat.le_refl _⟩
  · obtain ⟨e1, e2⟩ := y
    subst e1
    obtain ⟨v, h1, h2⟩ := reps_get r hd
    rw [e2 vs (SqL.of (sr.gr.sub _ _ (l.1 _ _ e)))] at h1
    cases h1
    exact ⟨g1, Gle.refl _, sr, rep_mono l _ _ h2⟩
theorem dw_tup {a : Addr} {vs : List V} {ds : List D} (e : SqT K g.G a vs) (r : reps K g ds vs) : DW K g (Itt K a) ds := by
  refine ⟨fun i g1 H l sm hi => ?_, fun g1 H l sm => ?_, fun {Z s g1 σ H i d x H'} l sr hd y => ?_⟩
  · have hi' : i < vs.length := by rw [reps_length r]; exact hi
    exact ⟨vs, vs[i], SqT.mono (l.1.trans sm) e, List.getElem?_eq_getElem hi'⟩
  · exact ⟨vs, SqT.mono (l.1.trans sm) e, by rw [reps_length r]; exact Nat.le_refl _⟩
  · obtain ⟨e1, e2⟩ := y
    subst e1
    obtain ⟨v, h1, h2⟩ := reps_get r hd
    rw [e2 vs (SqT.mono (l.1.trans sr.gr.sub) e)] at h1
    cases h1
    exact ⟨g1, Gle.refl _, sr, rep_mono l _ _ h2⟩
theorem dw_fn {J : It} {ds : List D} (n : Nat) (hn : ds.length = n) (go : ∀ i H, i < n → J.go i H) (stop : ∀ H, J.stop n H) (yld : ∀ i H x H', i < n → J.yld i H x H' → H' = H ∧ ∀ d, ds[i]? = some d → ∀ g, rep K g d x) : DW K g J ds := by
  subst hn
  refine ⟨fun i g1 H l sm hi => go i H hi, fun g1 H l sm => stop H, fun {Z s g1 σ H i d x H'} l sr hd y => ?_⟩
  have hi : i < ds.length := (List.getElem?_eq_some_iff.mp hd).1
  obtain ⟨e1, e2⟩ := yld i H x H' hi y
  subst e1
  exact ⟨g1, Gle.refl _, sr, e2 d hd g1⟩
/-- a list or a tuple, read off a value -/
def itM (m : M D) : M (List D) := mb m fun d => mb (fz d) fun x => mopt fun _ => match x with | .lst xs => some xs | .tup xs => some xs | _ => none
theorem it_end {R' : It → Hp → Prop} {d1 : D} {s1 : S} {g1 : Gh} {H1 : Hp} {v1 : V} (sr1 : SRz K Z s1 g1 σ H1) (r1 : repL K g1 σ d1 v1)
    (e1 : IEnd K Z W g1 σ R' (mb (fz d1) (fun x => mopt fun _ => match x with | .lst xs => some xs | .tup xs => some xs | _ => none) s1)) :
    (∃ a, v1 = .ref a ∧ (∃ xs, SqL K H1 a xs) ∧ R' (Itl K a) H1) ∨ (∃ a, v1 = .ref a ∧ (∃ xs, SqT K H1 a xs) ∧ R' (Itt K a) H1) := by
  obtain ⟨g2, d2, s2, l2, sr2, r2, e2⟩ := fz_end isI sr1 r1 e1
  obtain ⟨ds, hd, q⟩ := mopt_endE isI e2
  cases d2 with
  | lst xs =>
    cases hd
    obtain ⟨a, vs, rfl, e3, e4⟩ := r2
    exact .inl ⟨a, rfl, ⟨vs, SqL.of (sr2.gr.sub _ _ e3)⟩, q _ H1 g2 (Gle.refl _) sr2 (dw_list e3 e4)⟩
  | tup xs =>
    cases hd
    obtain ⟨a, vs, rfl, e3, e4⟩ := r2
    exact .inr ⟨a, rfl, ⟨vs, SqT.mono sr2.gr.sub e3⟩, q _ H1 g2 (Gle.refl _) sr2 (dw_tup e3 e4)⟩
  | _ => cases hd
theorem i_seq (he : PE X e (tD X.K Z W m)) : PI X tg e (tI X.K Z W (itM m)) := ⟨fun pins s σ H R' I ⟨s0, g0, sr, q⟩ => by
  -- the value first: then by its kind
  refine thn (he.run pins s σ H (fun v1 H1 => (∃ a, v1 = .ref a ∧ (∃ xs, SqL X.K H1 a xs) ∧ R' (Itl X.K a) H1) ∨ (∃ a, v1 = .ref a ∧ (∃ xs, SqT X.K H1 a xs) ∧ R' (Itt X.K a) H1)) I (goD isI sr q fun d1 s1 v1 H1 g1 l1 sr1 r1 e1 => it_end sr1 r1 e1)) fun v s1 ⟨x, H1, I1, r1, q1⟩ => ?_
  rcases q1 with ⟨a, e, ⟨xs, hq⟩, q⟩ | ⟨a, e, ⟨xs, hq⟩, q⟩
  · subst e
    cases r1
    obtain ⟨its, rv, p, hz⟩ := I1.list hq
    refine wpAny_pyIter_list p.isList ?_
    refine ⟨s1.heap.objs.size, [s1.heap.objs.size], _, _, H1, rfl, I1.kept (t' := s1.toks) fun b o e => Heap.get?_push_of_some _ e, turn_list a _, ⟨_, Heap.get?_push_size _ rfl, rfl, rfl⟩, fun b hb => ?_, q⟩
    have e : b = s1.heap.objs.size := by simpa using hb
    subst e
    exact I1.fpOk (Nat.le_refl _) (I1.hok.fresh (Nat.le_refl _))
  · subst e
    cases r1
    obtain ⟨its, rv, p, hz⟩ := I1.tuple hq
    refine wpAny_pyIter_tuple (show s1.heap.IsTuple a its.toArray from p) ?_
    refine ⟨s1.heap.objs.size, [s1.heap.objs.size], _, _, H1, rfl, I1.kept (t' := s1.toks) fun b o e => Heap.get?_push_of_some _ e, turn_tuple a _, ⟨_, Heap.get?_push_size _ rfl, rfl, rfl⟩, fun b hb => ?_, q⟩
    have e : b = s1.heap.objs.size := by simpa using hb
    subst e
    exact I1.fpOk (Nat.le_refl _) (I1.hok.fresh (Nat.le_refl _))⟩
def rngL (lo : Int) (n : Nat) : List D := (List.range n).map fun (i : Nat) => .int (lo + (i : Int))
def rngM1 (ma : M (List D)) : M (List D) := mb ma fun ds => mopt fun _ => match ds with | [.int j] => if -(2 ^ 62) ≤ j ∧ j < 2 ^ 62 then some (rngL 0 j.toNat) else none | _ => none
def rngM2 (ma : M (List D)) : M (List D) := mb ma fun ds => mopt fun _ => match ds with | [.int i, .int j] => if -(2 ^ 62) ≤ i ∧ i < 2 ^ 62 ∧ -(2 ^ 62) ≤ j ∧ j < 2 ^ 62 then some (rngL i (j - i).toNat) else none | _ => none
theorem dw_rng {lo : Int} {n : Nat} : DW K g (Itr lo n) (rngL lo n) := by
  refine dw_fn n (by simp [rngL]) (fun i H hi => hi) (fun H => Nat.le_refl _) fun i H x H' hi y => ⟨y.1, fun d hd g => ?_⟩
  have : d = .int (lo + (i : Int)) := by
    simp [rngL, hi] at hd
    exact hd.symm
  subst this
  exact y.2
theorem i_range1 {a : Expr} (hg : Gl X "range") (hm : X.mg "range" = none) (ha : PA X [a] (tA X.K Z W ma)) (hs : starEach [a] X.env = [(false, eval a X.env)] := by rfl) : PI X tg (.Call (.Name "range" p) [a] [] pos) (tI X.K Z W (rngM1 ma)) :=
  PI.weak (pi_range1 hg hm ha hs) fun σ H R' ⟨s, g, sr, e⟩ => goA isI sr e fun ds s1 vs H1 g1 l1 sr1 r1 e1 => by
    obtain ⟨xs, hx, q⟩ := mopt_endE isI e1
    split at hx
    · rename_i j
      split at hx
      · rename_i hj
        cases hx
        exact ⟨j, repLs_int1 r1, hj.1, hj.2, q _ H1 g1 (Gle.refl _) sr1 dw_rng⟩
      · cases hx
    · cases hx
theorem i_range2 {a b : Expr} (hg : Gl X "range") (hm : X.mg "range" = none) (ha : PA X [a, b] (tA X.K Z W ma)) (hs : starEach [a, b] X.env = [(false, eval a X.env), (false, eval b X.env)] := by rfl) (hs2 : starEach [b] X.env = [(false, eval b X.env)] := by rfl) : PI X tg (.Call (.Name "range" p) [a, b] [] pos) (tI X.K Z W (rngM2 ma)) :=
  PI.weak (pi_range2 hg hm ha hs hs2) fun σ H R' ⟨s, g, sr, e⟩ => goA isI sr e fun ds s1 vs H1 g1 l1 sr1 r1 e1 => by
    obtain ⟨xs, hx, q⟩ := mopt_endE isI e1
    split at hx
    · rename_i i j
      split at hx
      · rename_i hj
        cases hx
        exact ⟨i, j, repLs_int2 r1, hj, q _ H1 g1 (Gle.refl _) sr1 dw_rng⟩
      · cases hx
    · cases hx
/-- a text, sign by sign -/
def strM (m : M D) : M (List D) := mb m fun d => mopt fun _ => (toS d).map fun x => x.map fun c => .str [c]
theorem i_str (he : PE X e (tD X.K Z W m)) : PI X tg e (tI X.K Z W (strM m)) :=
  PI.weak (pi_str he) fun σ H R' ⟨s, g, sr, e⟩ => goD isI sr e fun d1 s1 v1 H1 g1 l1 sr1 r1 e1 => by
    obtain ⟨xs, hx, q⟩ := mopt_endE isI e1
    cases hd : toS d1 with
    | none => rw [hd] at hx; cases hx
    | some x =>
      rw [hd] at hx
      cases hx
      refine ⟨sx x, toS_ok r1 hd, q _ H1 g1 (Gle.refl _) sr1 ?_⟩
      refine dw_fn x.length (by simp) (fun i H hi => by show i < x.toArray.size; simpa using hi) (fun H => by show x.toArray.size ≤ x.length; simp) fun i H y H' hi h => ⟨h.1, fun d hd g => ?_⟩
      obtain ⟨_, c, hc, rfl⟩ := h
      have hc' : x[i]? = some c := by simpa [sx] using hc
      simp [hc'] at hd
      subst hd
      rfl
/-- enumerate of a list -/
def enumL : Nat → List D → List D
  | _, [] => []
  | n, d :: ds => .tup [.int n, d] :: enumL (n + 1) ds
theorem enumL_length : ∀ (ds : List D) (n : Nat), (enumL n ds).length = ds.length
  | [], _ => rfl
  | d :: ds, n => by simp [enumL, enumL_length ds]
theorem enumL_get : ∀ (ds : List D) (n i : Nat) (d : D), (enumL n ds)[i]? = some d → ∃ x, ds[i]? = some x ∧ d = .tup [.int ((n + i : Nat) : Int), x]
  | [], _, _, _, h => by simp [enumL] at h
  | x :: ds, n, 0, d, h => by simp [enumL] at h; exact ⟨x, rfl, h.symm⟩
  | x :: ds, n, i + 1, d, h => by
    simp only [enumL, List.getElem?_cons_succ] at h
    obtain ⟨y, h1, h2⟩ := enumL_get ds (n + 1) i d h
    exact ⟨y, by simpa using h1, by rw [h2]; congr 3; omega⟩
theorem pair_rep {T : Addr} {x y : V} {c d : D} {Z : En} (sr : SR K Z s g σ H) (hT : H T = none) (r1 : rep K g c x) (r2 : rep K g d y) : ∃ g', Gle g g' ∧ SR K Z s g' σ (upd H T (.tup [x, y])) ∧ rep K g' (.tup [c, d]) (.ref T) :=
  sr.alloc_tup hT ⟨x, [y], rfl, r1, y, [], rfl, r2, rfl⟩
theorem dw_enum {a : Addr} {vs : List V} {ds : List D} (e : g.G a = some (.lst vs)) (r : reps K g ds vs) : DW K g (Ite K a) (enumL 0 ds) := by
  refine ⟨fun i g1 H l sm hi => ?_, fun g1 H l sm => ?_, fun {Z s g1 σ H i d x H'} l sr hd y => ?_⟩
  · have hi' : i < vs.length := by rw [reps_length r, ← enumL_length ds 0]; exact hi
    exact ⟨vs, vs[i], SqL.of (sm _ _ (l.1 _ _ e)), List.getElem?_eq_getElem hi'⟩
  · exact ⟨vs, SqL.of (sm _ _ (l.1 _ _ e)), by rw [reps_length r, enumL_length]; exact Nat.le_refl _⟩
  · obtain ⟨d', h1, rfl⟩ := enumL_get ds 0 i d hd
    obtain ⟨T, x', e1, e2, e3, e4⟩ := y
    obtain ⟨v, k1, k2⟩ := reps_get r h1
    rw [e4 vs (SqL.of (sr.gr.sub _ _ (l.1 _ _ e)))] at k1
    cases k1
    subst e1 e3
    exact pair_rep sr e2 (by rw [Nat.zero_add]; rfl) (rep_mono l _ _ k2)
def enumM (ma : M (List D)) : M (List D) := mb ma fun ds => mb (fzs ds) fun xs => mopt fun _ => match xs with | [.lst ys] => some (enumL 0 ys) | _ => none
theorem i_enum {elts : List Expr} {kk : Nat} {tpos : Pos} (hg : Gl X "enumerate") (hm : X.mg "enumerate" = none) (ha : PA X [e] (tA X.K Z W ma)) (hs : starEach [e] X.env = [(false, eval e X.env)] := by rfl) : PI X (.Tuple elts kk tpos) (.Call (.Name "enumerate" p) [e] [] pos) (tI X.K Z W (enumM ma)) :=
  PI.weak (pi_enum hg hm ha hs) fun σ H R' ⟨s, g, sr, e⟩ => goA isI sr e fun ds s1 vs H1 g1 l1 sr1 r1 e1 => by
    obtain ⟨g2, ds2, s2, l2, sr2, r2, e2⟩ := fzs_end isI sr1 r1 e1
    obtain ⟨xs, hx, q⟩ := mopt_endE isI e2
    split at hx
    · cases hx
      obtain ⟨v, w, rfl, ⟨a, us, rfl, k1, k2⟩, h2⟩ := r2
      cases h2
      exact ⟨a, us, rfl, SqL.of (sr2.gr.sub _ _ k1), q _ H1 g2 (Gle.refl _) sr2 (dw_enum k1 k2)⟩
    · cases hx

/-! ### for -/
def loopD (f : D → S → Option S) (body : M Fl) : List D → M Fl
  | [] => mret .nx
  | d :: ds => fun s => match f d s with
    | none => .bad
    | some s1 => (body s1).bind fun fl => match fl with
      | .nx => loopD f body ds
      | .ct => loopD f body ds
      | .bk => mret .nx
      | .rt d => mret (.rt d)
def forM' (mi : M (List D)) (f : D → S → Option S) (body : M Fl) : M Fl := mb mi fun ds => loopD f body ds
theorem tFor_of {mi : M (List D)} {I : List Nat} {f : D → S → Option S} {body : M Fl} {N : Ends} (h : tS K Z W (forM' mi f body) N σ H) : tFor (tI K Z W mi) (tG K Z I f) (tS K Z W body) N σ H := by
  obtain ⟨s, g, sr, e⟩ := h
  refine ⟨s, g, sr, ?_⟩
  unfold forM' mb at e
  cases q : mi s with
  | exc x s1 => rw [q] at e; exact e σ
  | bad => rw [q] at e; exact e
  | ok ds s1 =>
    rw [q] at e
    intro J H1 g1 l1 sr1 dw
    refine ⟨fun i m σ' H' => m = ds.length - i ∧ i ≤ ds.length ∧ ∃ s2 g2, Gle g1 g2 ∧ SRz K Z s2 g2 σ' H' ∧ SEnd K Z W g2 N (loopD f body (ds.drop i) s2), ⟨ds.length, by simp, Nat.zero_le _, s1, g1, Gle.refl _, sr1, SEnd.up l1 e⟩, ?_⟩
    rintro i m σ' H' ⟨rfl, hi, s2, g2, l2, sr2, e2⟩
    by_cases hlt : i < ds.length
    · refine .inr ⟨dw.goes i g2 H' l2 sr2.gr.sub hlt, fun σ3 H3 => ∃ s3 g3, Gle g1 g3 ∧ SRz K Z s3 g3 σ3 H3 ∧ SEnd K Z W g3 N (loopD f body (ds.drop (i + 1)) s3), fun σ3 H3 h3 => ⟨ds.length - (i + 1), by omega, rfl, hlt, h3⟩, fun x H3 y => ?_⟩
      obtain ⟨g3, l3, sr3, rp⟩ := dw.yields l2 sr2 (List.getElem?_eq_getElem hlt) y
      rw [List.drop_eq_getElem_cons hlt] at e2
      unfold loopD at e2
      cases hf : f ds[i] s2 with
      | none => simp only [hf] at e2; exact e2.elim
      | some s4 =>
        simp only [hf] at e2
        refine ⟨s2, g3, ds[i], sr3, rp, s4, hf, fun σ4 H4 g4 l4 sr4 _ => ⟨s4, g4, sr4, ?_⟩⟩
        have e3 := SEnd.up (l3.trans l4) e2
        have l14 : Gle g1 g4 := l2.trans (l3.trans l4)
        cases hb : body s4 with
        | bad => rw [hb] at e3; exact e3
        | exc x s5 => rw [hb] at e3; exact e3
        | ok fl s5 =>
          rw [hb] at e3
          cases fl with
          | nx => exact fun σ5 H5 g5 l5 sr5 => ⟨s5, g5, l14.trans l5, sr5, SEnd.up l5 e3⟩
          | ct => exact fun σ5 H5 g5 l5 sr5 => ⟨s5, g5, l14.trans l5, sr5, SEnd.up l5 e3⟩
          | bk => exact fun σ5 H5 g5 l5 sr5 => e3 σ5 H5 g5 l5 sr5
          | rt d => exact e3
    · have ei : i = ds.length := by omega
      subst ei
      rw [List.drop_length] at e2
      exact .inl ⟨dw.stops g2 H' l2 sr2.gr.sub, e2 σ' H' g2 (Gle.refl _) sr2⟩
theorem s_for {body : List Stmt} {mi : M (List D)} {I : List Nat} {f : D → S → Option S} {mb' : M Fl} (hp : PassesOwn (model X.prog X.w) X.A X.env X.xe) (hc : X.calm = true) (hi : PI X tg iter (tI X.K Z W mi)) (hg : PG X tg (tG X.K Z I f)) (hb : PSs X body (tS X.K Z W mb'))
    (hs : ∀ x, foldedSetIterable iter X.env x = pure x := by intro _; rfl) : PS X (.For tg iter body [] pos) (tS X.K Z W (forM' mi f mb')) :=
  PS.weak (ps_for hp hc hi hg hb hs) fun D σ H h => tFor_of h

/-! ### while -/
def whlM (t : M Bool) (body : M Fl) : Nat → M Fl
  | 0 => fun _ => .bad
  | n + 1 => mb t fun c => if c = true then mb body (fun fl => match fl with
      | .nx => whlM t body n
      | .ct => whlM t body n
      | .bk => mret .nx
      | .rt d => mret (.rt d)) else mret .nx
theorem tWhile_of {t : M Bool} {body : M Fl} {n : Nat} {N : Ends} (h : tS K Z W (whlM t body n) N σ H) : tWhile (tT K Z W t) (tS K Z W body) N σ H := by
  refine ⟨fun m σ' H' => tS K Z W (whlM t body m) N σ' H', ⟨n, h⟩, fun m σ' H' hw => ?_⟩
  obtain ⟨s, g, sr, e⟩ := hw
  cases m with
  | zero => exact e.elim
  | succ m =>
    unfold whlM at e
    refine goT isS sr e fun c s1 H1 g1 l1 sr1 e1 => ?_
    cases c with
    | false => rw [if_neg Bool.false_ne_true] at e1 ⊢; exact e1 σ' H1 g1 (Gle.refl _) sr1
    | true =>
      rw [if_pos rfl] at e1 ⊢
      refine ⟨fun σ3 H3 => tS K Z W (whlM t body m) N σ3 H3, fun σ3 H3 h3 => ⟨m, Nat.lt_succ_self m, h3⟩, s1, g1, sr1, ?_⟩
      unfold mb at e1
      cases hb : body s1 with
      | bad => rw [hb] at e1; exact e1
      | exc x s5 => rw [hb] at e1; exact e1
      | ok fl s5 =>
        rw [hb] at e1
        cases fl with
        | nx => exact fun σ5 H5 g5 l5 sr5 => ⟨s5, g5, sr5, SEnd.up l5 e1⟩
        | ct => exact fun σ5 H5 g5 l5 sr5 => ⟨s5, g5, sr5, SEnd.up l5 e1⟩
        | bk => exact fun σ5 H5 g5 l5 sr5 => e1 σ5 H5 g5 l5 sr5
        | rt d => exact e1
theorem s_while {c : Expr} {body : List Stmt} {t : M Bool} {mb' : M Fl} (n : Nat) (hp : PassesOwn (model X.prog X.w) X.A X.env X.xe) (hc : PT X c (tT X.K Z W t)) (hb : PSs X body (tS X.K Z W mb')) : PS X (.While c body [] pos) (tS X.K Z W (whlM t mb' n)) :=
  PS.weak (ps_while hp hc hb) fun D σ H h => tWhile_of h
end
end DL
end
section -- DK
set_option Elab.async false
set_option linter.all false
set_option maxRecDepth 100000
namespace DL
open PySem PySem.Spec L2

/-! ### comprehensions -/
def bor1 : Sl → Sl
  | .own o => .bor o
  | z => z
def wipeS (sl : List Sl) : List Nat → List Sl
  | [] => sl
  | v :: vs => (wipeS sl vs).set v .non
/-- a comprehension's block: what is owned may be read, the block's own names are free -/
def blkS (sl : List Sl) (vs : List Nat) : List Sl := wipeS (sl.map bor1) vs
theorem wipeS_length (sl : List Sl) : ∀ vs, (wipeS sl vs).length = sl.length
  | [] => rfl
  | v :: vs => by rw [wipeS, List.length_set, wipeS_length sl vs]
theorem wipeS_get {sl : List Sl} {i : Nat} {z : Sl} (hz : z ≠ .non) : ∀ {vs : List Nat}, (wipeS sl vs)[i]? = some z → sl[i]? = some z ∧ i ∉ vs
  | [], h => ⟨h, by simp⟩
  | v :: vs, h => by
    unfold wipeS at h
    by_cases e : i = v
    · subst e
      have hl : i < (wipeS sl vs).length := by
        have := (List.getElem?_eq_some_iff.mp h).1
        simpa using this
      rw [List.getElem?_set_self hl] at h
      cases h
      exact absurd rfl hz
    · rw [List.getElem?_set_ne (Ne.symm e)] at h
      obtain ⟨h1, h2⟩ := wipeS_get hz h
      exact ⟨h1, by simp [e, h2]⟩
theorem wipe_keep {σ : St} {i : Nat} {x : Option V} : ∀ {vs : List Nat}, i ∉ vs → σ[i]? = some x → (wipe σ vs)[i]? = some x
  | [], _, h => h
  | v :: vs, n, h => by
    unfold wipe
    have : i ≠ v := fun z => n (by simp [z])
    rw [List.getElem?_set_ne (Ne.symm this)]
    exact wipe_keep (fun z => n (by simp [z])) h
section
variable {K : PySem.W.Frag} {Z0 : En} {g g1 : Gh} {H H1 : Hp} {s : S} {σ : St} {mu : List Own}
/-- the state of a block, some time behind the comprehension's beginning (s, g1, H1) -/
theorem SR.block {vs : List Nat} (sr : SR K Z0 s g1 σ H1) (fr : Frm g1 H1 g H) (gr : GR K g H mu) : SR K ⟨g, H, none⟩ ⟨blkS s.sl vs, mu⟩ g (wipe σ vs) H := by
  have bk : ∀ {i : Nat} {z : Sl}, z ≠ .non → (blkS s.sl vs)[i]? = some z → ∃ y, s.sl[i]? = some y ∧ bor1 y = z ∧ i ∉ vs := fun {i z} hz h => by
    obtain ⟨h1, h2⟩ := wipeS_get hz h
    rw [List.getElem?_map] at h1
    cases q : s.sl[i]? with
    | none => rw [q] at h1; cases h1
    | some y => rw [q] at h1; exact ⟨y, rfl, Option.some.inj h1, h2⟩
  refine ⟨gr, Frm.refl gr.sub, fun i d h => ?_, fun i o h => ?_, fun i o h => ?_, fun i j o u a h1 h2 h3 h4 => ?_, ?_, fun i C fs h => ?_⟩
  · obtain ⟨y, e, b, hv⟩ := bk (by intro z; cases z) h
    cases y with
    | dat d' =>
      cases b
      obtain ⟨v, k1, k2⟩ := sr.dat i d e
      exact ⟨v, wipe_keep hv k1, rep_mono fr.le _ _ k2⟩
    | _ => cases b
  · obtain ⟨y, e, b, hv⟩ := bk (by intro z; cases z) h
    cases y <;> cases b
  · obtain ⟨y, e, b, hv⟩ := bk (by intro z; cases z) h
    have key : ∀ {a : Addr}, OwnRep K g1 H1 a o → a ∉ g1.as → OwnRep K g H a o ∧ a ∉ g.as ∧ (H a ≠ none ∧ a ∉ g.as) := fun {a} r na => by
      obtain ⟨u, hu⟩ := r.some
      have hk := fr.keep a u hu na
      have nn : a ∉ g.as := fun z => by
        rcases fr.new a z with z | z
        · exact na z
        · rw [z] at hu; cases hu
      exact ⟨r.mono fr.le (hk.trans hu.symm), nn, (by rw [hk]; simp), nn⟩
    cases y with
    | own o' =>
      cases b
      obtain ⟨a, k1, k2, k3, k4, k5⟩ := sr.own i o e
      obtain ⟨q1, q2, q3⟩ := key k2 k4
      exact ⟨a, wipe_keep hv k1, q1, q2, q3⟩
    | bor o' =>
      cases b
      obtain ⟨a, k1, k2, k3, k4⟩ := sr.bor i o e
      obtain ⟨q1, q2, q3⟩ := key k2 k3
      exact ⟨a, wipe_keep hv k1, q1, q2, q3⟩
    | _ => cases b
  · obtain ⟨y, e, b, hv⟩ := bk (by intro z; cases z) h1
    cases y <;> cases b
  · show (wipeS (s.sl.map bor1) vs).length = _
    rw [wipeS_length, wipe_length, List.length_map, sr.len]
  · obtain ⟨y, e, b, hv⟩ := bk (by intro z; cases z) h
    cases y <;> cases b
/-- behind the comprehension -/
theorem SR.behind (sr : SR K Z0 s g1 σ H1) (fr : Frm g1 H1 g H) (gr : GR K g H mu) : SR K Z0 ⟨s.sl, mu⟩ g σ H := by
  have key : ∀ {a : Addr} {o : Own}, OwnRep K g1 H1 a o → a ∉ g1.as → OwnRep K g H a o ∧ a ∉ g.as := fun {a o} r na => by
    obtain ⟨u, hu⟩ := r.some
    have hk := fr.keep a u hu na
    have nn : a ∉ g.as := fun z => by
      rcases fr.new a z with z | z
      · exact na z
      · rw [z] at hu; cases hu
    exact ⟨r.mono fr.le (hk.trans hu.symm), nn⟩
  refine ⟨gr, sr.fr.trans fr, fun i d h => ?_, fun i o h => ?_, fun i o h => ?_, sr.apart, sr.len, sr.self⟩
  · obtain ⟨v, k1, k2⟩ := sr.dat i d h
    exact ⟨v, k1, rep_mono fr.le _ _ k2⟩
  · obtain ⟨a, k1, k2, k3, k4, k5⟩ := sr.own i o h
    obtain ⟨q1, q2⟩ := key k2 k4
    refine ⟨a, k1, q1, ?_, q2, k5⟩
    cases q : g.G a with
    | none => rfl
    | some x =>
      rcases fr.frz a (by rw [q]; simp) with z | z
      · exact absurd k3 z
      · obtain ⟨u, hu⟩ := k2.some
        rw [z] at hu; cases hu
  · obtain ⟨a, k1, k2, k3, k4⟩ := sr.bor i o h
    obtain ⟨q1, q2⟩ := key k2 k3
    exact ⟨a, k1, q1, q2, k4⟩
def dropH (H : Hp) (p : Addr) : Hp := fun b => if b = p then none else H b
theorem dropH_same {p : Addr} : dropH H p p = none := if_pos rfl
theorem dropH_ne {p b : Addr} (h : b ≠ p) : dropH H p b = H b := if_neg h
theorem upd_dropH {p : Addr} {u : HO} (h : H p = some u) : upd (dropH H p) p u = H := by
  funext b
  by_cases e : b = p
  · subst e; rw [upd_same, h]
  · rw [upd_ne e, dropH_ne e]
/-- an object that nothing of ours leans on may be put aside -/
theorem GR.drop {p : Addr} (gr : GR K g H mu) (n : g.G p = none) (na : p ∉ g.as) : GR K g (dropH H p) mu :=
  ⟨fun b x e => by rw [dropH_ne (fun z => by rw [z, n] at e; cases e)]; exact gr.sub _ _ e, gr.len, fun k o a q1 q2 => by
    obtain ⟨z1, z2⟩ := gr.st k o a q1 q2
    exact ⟨z1.mono (Gle.refl g) (dropH_ne fun z => na (by rw [← z]; exact List.mem_of_getElem? q2)), z2⟩, gr.nd⟩
theorem GR.put {p : Addr} {u : HO} (gr : GR K g H mu) (n : g.G p = none) (na : p ∉ g.as) : GR K g (upd H p u) mu :=
  ⟨fun b x e => by rw [upd_ne (fun z => by rw [z, n] at e; cases e)]; exact gr.sub _ _ e, gr.len, fun k o a q1 q2 => by
    obtain ⟨z1, z2⟩ := gr.st k o a q1 q2
    exact ⟨z1.mono (Gle.refl g) (upd_ne fun z => na (by rw [← z]; exact List.mem_of_getElem? q2)), z2⟩, gr.nd⟩
theorem Frm.put {p : Addr} {u : HO} (fr : Frm g1 H1 g H) (n : H1 p = none) : Frm g1 H1 g (upd H p u) :=
  ⟨fr.le, fun a o e1 e2 => by rw [upd_ne (fun z => by rw [z, n] at e1; cases e1)]; exact fr.keep a o e1 e2, fun a e => by
    by_cases h : a = p
    · subst h; exact n
    · rw [upd_ne h] at e; exact fr.there a e, fr.frz, fr.new⟩
theorem Frm.drop {p : Addr} (fr : Frm g1 H1 g H) (n : H1 p = none) : Frm g1 H1 g (dropH H p) :=
  ⟨fr.le, fun a o e1 e2 => by rw [dropH_ne (fun z => by rw [z, n] at e1; cases e1)]; exact fr.keep a o e1 e2, fun a e => by
    by_cases h : a = p
    · subst h; exact n
    · rw [dropH_ne h] at e; exact fr.there a e, fr.frz, fr.new⟩
end

theorem wipe_wipe (σ : St) (vs : List Nat) : wipe (wipe σ vs) vs = wipe σ vs := by
  refine List.ext_getElem? fun j => ?_
  rw [wipe_get, wipe_length, wipe_get]
  by_cases h : j ∈ vs ∧ j < σ.length
  · rw [if_pos h, if_pos h]
  · rw [if_neg h]
/-- the turns of a comprehension: what is made, the store behind -/
def lcLoop (sl : List Sl) (f : D → S → Option S) (t : M Bool) (e : M D) : List D → List D → List Own → R (List D)
  | [], acc, mu => .ok acc ⟨sl, mu⟩
  | d :: ds, acc, mu => match f d ⟨sl, mu⟩ with
    | none => .bad
    | some s1 => match t s1 with
      | .ok true s2 => match mb e fz s2 with
        | .ok x s3 => if acc.length < sizeLine then lcLoop sl f t e ds (acc ++ [x]) s3.mu else .bad
        | _ => .bad
      | .ok false s2 => lcLoop sl f t e ds acc s2.mu
      | _ => .bad
def lcM (mi : M (List D)) (vs : List Nat) (f : D → S → Option S) (t : M Bool) (e : M D) : M Own := mb mi fun ds => fun s => match lcLoop (blkS s.sl vs) f t e ds [] s.mu with
  | .ok xs s' => .ok (.lst xs) ⟨s.sl, s'.mu⟩
  | _ => .bad
abbrev W0 : WX := fun _ _ _ _ => False
/-- tests of a comprehension: none or one -/
def yesM : M Bool := mret true
section
variable {K : PySem.W.Frag} {X : Cx} {Z : En} {W : WX} {g g' : Gh} {σ : St} {H : Hp} {s : S}
theorem tLc_of {mi : M (List D)} {vs I : List Nat} {f : D → S → Option S} {t : M Bool} {e : M D} {tt : TT} {te : TE} {tg : TG} {Q : VK} (hI : ∀ i ∈ I, i ∈ vs)
    (hf : ∀ (Z' : En) v σ H Q, tG K Z' I f v σ H Q → tg v σ H Q) (ht : ∀ (Z' : En) σ H Q, tT K Z' W0 t σ H Q → tt σ H Q) (he : ∀ (Z' : En) σ H Q, tD K Z' W0 e σ H Q → te σ H Q)
    (h : tF K Z W (lcM mi vs f t e) σ H Q) : tLc (tI K Z W mi) tg tt te vs σ H Q := by
  obtain ⟨s, g, sr, q⟩ := h
  refine ⟨s, g, sr, ?_⟩
  unfold lcM mb at q
  cases hm : mi s with
  | exc x s1 => rw [hm] at q; exact q
  | bad => rw [hm] at q; exact q
  | ok ds s1 =>
    rw [hm] at q
    simp only [R.bind_ok] at q
    intro J H1 g1 l1 sr1 dw D hD
    have gD1 : g1.G D = none := by
      cases z : g1.G D with
      | none => rfl
      | some x => have := sr1.gr.sub _ _ z; rw [hD] at this; cases this
    have aD1 : D ∉ g1.as := fun z => by
      obtain ⟨x, hx⟩ := sr1.gr.mem z
      rw [hD] at hx; cases hx
    -- the invariant
    refine ⟨fun i m H => m = ds.length - i ∧ i ≤ ds.length ∧ ∃ acc accV mu g2, H D = some (.lst accV) ∧ reps K g2 acc accV ∧ g2.G D = none ∧ D ∉ g2.as ∧ Frm g1 H1 g2 H ∧ GR K g2 H mu ∧
      FEnd K Z W g σ Q (match lcLoop (blkS s1.sl vs) f t e (ds.drop i) acc mu with
        | .ok xs s' => .ok (.lst xs) ⟨s1.sl, s'.mu⟩
        | _ => .bad), ⟨ds.length, by simp, Nat.zero_le _, [], [], s1.mu, g1, upd_same, rfl, gD1, aD1, (Frm.refl sr1.gr.sub).put hD, sr1.gr.put gD1 aD1, q⟩, ?_⟩
    rintro i m H2 ⟨rfl, hi, acc, accV, mu, g2, hacc, racc, gD, aD, fr, gr, fe⟩
    have nH1 : ∀ {Hx : Hp} {gx : Gh}, Frm g2 H2 gx Hx → Hx D = some (.lst accV) ∧ gx.G D = none ∧ D ∉ gx.as := fun {Hx gx} fx => by
      refine ⟨fx.keep D _ hacc aD, ?_, fun z => ?_⟩
      · cases z : gx.G D with
        | none => rfl
        | some x =>
          rcases fx.frz D (by rw [z]; simp) with y | y
          · exact absurd gD y
          · rw [y] at hacc; cases hacc
      · rcases fx.new D z with y | y
        · exact aD y
        · rw [y] at hacc; cases hacc
    by_cases hlt : i < ds.length
    · refine .inr ⟨dw.goes i g2 H2 fr.le gr.sub hlt, fun Hn => (i + 1 ≤ ds.length ∧ ∃ acc accV mu g2, Hn D = some (.lst accV) ∧ reps K g2 acc accV ∧ g2.G D = none ∧ D ∉ g2.as ∧ Frm g1 H1 g2 Hn ∧ GR K g2 Hn mu ∧
        FEnd K Z W g σ Q (match lcLoop (blkS s1.sl vs) f t e (ds.drop (i + 1)) acc mu with
          | .ok xs s' => .ok (.lst xs) ⟨s1.sl, s'.mu⟩
          | _ => .bad)), fun Hn hn => ⟨ds.length - (i + 1), by omega, rfl, hn⟩, fun x H3 y => ?_⟩
      have sb : SR K ⟨g2, H2, none⟩ ⟨blkS s1.sl vs, mu⟩ g2 (wipe σ vs) H2 := sr1.block fr gr
      obtain ⟨g3, l3, sr3, rp⟩ := dw.yields (Z := ⟨g2, H2, none⟩) fr.le sb (List.getElem?_eq_getElem hlt) y
      rw [List.drop_eq_getElem_cons hlt] at fe
      unfold lcLoop at fe
      cases hf1 : f ds[i] ⟨blkS s1.sl vs, mu⟩ with
      | none => simp only [hf1] at fe; exact fe.elim
      | some s4 =>
        simp only [hf1] at fe
        refine hf ⟨g2, H2, none⟩ x _ H3 _ ⟨_, g3, ds[i], sr3, rp, s4, hf1, fun σ4 H4 g4 l4 sr4 off => ⟨(off vs hI).trans (wipe_wipe σ vs), ht ⟨g2, H2, none⟩ _ _ _ ⟨s4, g4, sr4, ?_⟩⟩⟩
        cases hb : t s4 with
        | bad => simp only [hb] at fe; exact fe.elim
        | exc x s5 => simp only [hb] at fe; exact fe.elim
        | ok b s5 =>
          simp only [hb] at fe
          intro H5 g5 l5 sr5
          have f5 : Frm g2 H2 g5 H5 := sr5.fr
          cases b with
          | false =>
            rw [if_neg Bool.false_ne_true]
            obtain ⟨k1, k2, k3⟩ := nH1 f5
            exact ⟨hlt, acc, accV, s5.mu, g5, k1, reps_mono f5.le _ _ racc, k2, k3, fr.trans f5, sr5.gr, fe⟩
          | true =>
            rw [if_pos rfl]
            refine he ⟨g2, H2, none⟩ _ _ _ ⟨s5, g5, sr5, ?_⟩
            unfold mb at fe
            cases hx : e s5 with
            | bad => simp only [hx] at fe; exact fe.elim
            | exc x s6 => simp only [hx] at fe; exact fe.elim
            | ok d6 s6 =>
              simp only [hx, R.bind_ok] at fe
              intro v6 H6 g6 l6 sr6 r6
              cases hz : fz d6 s6 with
              | bad => simp only [hz] at fe; exact fe.elim
              | exc x s7 => exact (fz_noexc hz).elim
              | ok d7 s7 =>
                simp only [hz] at fe
                obtain ⟨g7, l7, sr7, r7⟩ := fz_ok sr6 r6 hz
                have f7 : Frm g2 H2 g7 H6 := sr7.fr
                obtain ⟨k1, k2, k3⟩ := nH1 f7
                by_cases hlen : acc.length < sizeLine
                · rw [if_pos hlen] at fe
                  refine ⟨accV, k1, by rw [reps_length racc]; exact hlen, hlt, acc ++ [d7], accV ++ [v6], s7.mu, g7, upd_same, reps_append (reps_mono f7.le _ _ racc) (reps_one r7), k2, k3, (fr.trans f7).put hD, sr7.gr.put k2 k3, fe⟩
                · rw [if_neg hlen] at fe
                  exact fe.elim
    · have ei : i = ds.length := by omega
      subst ei
      rw [List.drop_length] at fe
      refine .inl ⟨dw.stops g2 H2 fr.le gr.sub, ?_⟩
      have hup := upd_dropH hacc
      have fin := fe D (.lst accV) (dropH H2 D) g2 (l1.trans fr.le) (sr1.behind (fr.drop hD) (gr.drop gD aD)) dropH_same ⟨accV, rfl, racc⟩
      rw [hup] at fin
      exact fin
variable {tgt iter elt cond : Expr} {scope : Scope} {own : List (Str × Nat)} {pos p spos : Pos}
theorem f_lc {mi : M (List D)} {I : List Nat} {f : D → S → Option S} {e : M D} (own : List (Str × Nat)) (hc : X.calm = true) (hN : X.N.Nodup) (hi : PI X tgt iter (tI X.K Z W mi)) (ok : BlkOk X.N X.env.scope scope own) (hI : ∀ i ∈ I, i ∈ own.map (·.2))
    (hg : ∀ (s : Shared) (H : Hp) (C : Addr) (cl : List (Str × Addr)) (fp : List Addr) (Z' : En), PG (X.blk s H scope (compEnvC scope cl C X.env) fp) tgt (tG X.K Z' I f))
    (he : ∀ (s : Shared) (H : Hp) (C : Addr) (cl : List (Str × Addr)) (fp : List Addr) (Z' : En), PE (X.blk s H scope (compEnvC scope cl C X.env) fp) elt (tD X.K Z' W0 e))
    (hs : ∀ x, foldedSetIterable iter X.env x = pure x := by intro _; rfl) : PE X (.ListComp elt [⟨tgt, iter, [], 0⟩] scope pos) (tF X.K Z W (lcM mi (own.map (·.2)) f yesM e)) :=
  PE.weak (pe_lc (g := fun v σ H Q => ∃ Z', tG X.K Z' I f v σ H Q) (tt := tYes) (te := fun σ H Q => ∃ Z', tD X.K Z' W0 e σ H Q) hc hN hi ok
    (fun s H C cl fp => ⟨fun pins s1 σ H1 v u Q Iv r ⟨Z', q⟩ => (hg s H C cl fp Z').run pins s1 σ H1 v u Q Iv r q⟩) (fun _ _ _ _ _ => pts_nil)
    (fun s H C cl fp => ⟨fun pins s1 σ H1 Q Iv ⟨Z', q⟩ => (he s H C cl fp Z').run pins s1 σ H1 Q Iv q⟩) hs) fun σ H Q h =>
    tLc_of (I := I) hI (fun Z' v σ H Q h => ⟨Z', h⟩) (fun Z' σ H Q ⟨s, g, sr, q⟩ => q H g (Gle.refl _) sr) (fun Z' σ H Q h => ⟨Z', h⟩) h
theorem f_lcIf {mi : M (List D)} {I : List Nat} {f : D → S → Option S} {e : M D} {t : M Bool} (own : List (Str × Nat)) (hc : X.calm = true) (hN : X.N.Nodup) (hi : PI X tgt iter (tI X.K Z W mi)) (ok : BlkOk X.N X.env.scope scope own) (hI : ∀ i ∈ I, i ∈ own.map (·.2))
    (hg : ∀ (s : Shared) (H : Hp) (C : Addr) (cl : List (Str × Addr)) (fp : List Addr) (Z' : En), PG (X.blk s H scope (compEnvC scope cl C X.env) fp) tgt (tG X.K Z' I f))
    (ht : ∀ (s : Shared) (H : Hp) (C : Addr) (cl : List (Str × Addr)) (fp : List Addr) (Z' : En), PT (X.blk s H scope (compEnvC scope cl C X.env) fp) cond (tT X.K Z' W0 t))
    (he : ∀ (s : Shared) (H : Hp) (C : Addr) (cl : List (Str × Addr)) (fp : List Addr) (Z' : En), PE (X.blk s H scope (compEnvC scope cl C X.env) fp) elt (tD X.K Z' W0 e))
    (hs : ∀ x, foldedSetIterable iter X.env x = pure x := by intro _; rfl) : PE X (.ListComp elt [⟨tgt, iter, [cond], 0⟩] scope pos) (tF X.K Z W (lcM mi (own.map (·.2)) f t e)) :=
  PE.weak (pe_lc (g := fun v σ H Q => ∃ Z', tG X.K Z' I f v σ H Q) (tt := fun σ H Q => ∃ Z', tT X.K Z' W0 t σ H Q) (te := fun σ H Q => ∃ Z', tD X.K Z' W0 e σ H Q) hc hN hi ok
    (fun s H C cl fp => ⟨fun pins s1 σ H1 v u Q Iv r ⟨Z', q⟩ => (hg s H C cl fp Z').run pins s1 σ H1 v u Q Iv r q⟩) (fun s H C cl fp => pts_one ⟨fun pins s1 σ H1 Q Iv ⟨Z', q⟩ => (ht s H C cl fp Z').run pins s1 σ H1 Q Iv q⟩)
    (fun s H C cl fp => ⟨fun pins s1 σ H1 Q Iv ⟨Z', q⟩ => (he s H C cl fp Z').run pins s1 σ H1 Q Iv q⟩) hs) fun σ H Q h =>
    tLc_of (I := I) hI (fun Z' v σ H Q h => ⟨Z', h⟩) (fun Z' σ H Q h => ⟨Z', h⟩) (fun Z' σ H Q h => ⟨Z', h⟩) h
/-- name = a comprehension: a datum, or owned -/
theorem setLc_of {t : TE} {mo : M Own} {i : Nat} (ht : ∀ {σ H Q}, tF K Z W mo σ H Q → t σ H Q) {N : Ends} (h : tS K Z W (asgM (frz mo) (gN i)) N σ H) : tAsg t (gName i) N σ H := by
  refine tF_tD (Z := Z) (W := W) (mo := mo) (fun h => ht h) (?_ : tD K Z W (frz mo) σ H fun x H1 => gName i x σ H1 N.nx)
  obtain ⟨s, g, sr, e⟩ := h
  exact goD isS sr e fun d1 s1 v1 H1 g1 l1 sr1 r1 e1 => by
    obtain ⟨s2, g2, d2, sr2, r2, s3, q, k⟩ := asg_end (I := [i]) (f := gN i) sr1 r1 e1
    cases q
    exact k _ _ g2 (Gle.refl _) (sr2.set r2) Off.set
variable {y : Str} {py : Pos} {i : Nat}
theorem ps_lc {mi : M (List D)} {I : List Nat} {f : D → S → Option S} {e : M D} (own : List (Str × Nat)) (hc : X.calm = true) (hN : X.N.Nodup) (hy : X.N[i]? = some y) (hyl : X.env.scope.names.lookup y = some .local)
    (hsw : swapsWith (.ListComp elt [⟨tgt, iter, [], 0⟩] scope pos) (some (.Name y py)) spos.line X.env = pure true) (hi : PI X tgt iter (tI X.K Z W mi)) (ok : BlkOk X.N X.env.scope scope own) (hI : ∀ i ∈ I, i ∈ own.map (·.2))
    (hg : ∀ (s : Shared) (H : Hp) (C : Addr) (cl : List (Str × Addr)) (fp : List Addr) (Z' : En), PG (X.blk s H scope (compEnvC scope cl C X.env) fp) tgt (tG X.K Z' I f))
    (he : ∀ (s : Shared) (H : Hp) (C : Addr) (cl : List (Str × Addr)) (fp : List Addr) (Z' : En), PE (X.blk s H scope (compEnvC scope cl C X.env) fp) elt (tD X.K Z' W0 e))
    (hs : ∀ x, foldedSetIterable iter X.env x = pure x := by intro _; rfl) : ∃ t : TE, (∀ {σ H Q}, tF X.K Z W (lcM mi (own.map (·.2)) f yesM e) σ H Q → t σ H Q) ∧ PS X (.Assign [.Name y py] (.ListComp elt [⟨tgt, iter, [], 0⟩] scope pos) spos) (tAsg t (gName i)) :=
  ⟨_, fun {σ H Q} h => tLc_of (I := I) hI (fun Z' v σ H Q h => ⟨Z', h⟩) (fun Z' σ H Q ⟨s, g, sr, q⟩ => q H g (Gle.refl _) sr) (fun Z' σ H Q h => ⟨Z', h⟩) h,
    ps_setLc (g := fun v σ H Q => ∃ Z', tG X.K Z' I f v σ H Q) (tt := tYes) (te := fun σ H Q => ∃ Z', tD X.K Z' W0 e σ H Q) hc hN hy hyl hsw hi ok
    (fun s H C cl fp => ⟨fun pins s1 σ H1 v u Q Iv r ⟨Z', q⟩ => (hg s H C cl fp Z').run pins s1 σ H1 v u Q Iv r q⟩) (fun _ _ _ _ _ => pts_nil)
    (fun s H C cl fp => ⟨fun pins s1 σ H1 Q Iv ⟨Z', q⟩ => (he s H C cl fp Z').run pins s1 σ H1 Q Iv q⟩) hs⟩
theorem ps_lcIf {mi : M (List D)} {I : List Nat} {f : D → S → Option S} {e : M D} {t : M Bool} (own : List (Str × Nat)) (hc : X.calm = true) (hN : X.N.Nodup) (hy : X.N[i]? = some y) (hyl : X.env.scope.names.lookup y = some .local)
    (hsw : swapsWith (.ListComp elt [⟨tgt, iter, [cond], 0⟩] scope pos) (some (.Name y py)) spos.line X.env = pure true) (hi : PI X tgt iter (tI X.K Z W mi)) (ok : BlkOk X.N X.env.scope scope own) (hI : ∀ i ∈ I, i ∈ own.map (·.2))
    (hg : ∀ (s : Shared) (H : Hp) (C : Addr) (cl : List (Str × Addr)) (fp : List Addr) (Z' : En), PG (X.blk s H scope (compEnvC scope cl C X.env) fp) tgt (tG X.K Z' I f))
    (ht : ∀ (s : Shared) (H : Hp) (C : Addr) (cl : List (Str × Addr)) (fp : List Addr) (Z' : En), PT (X.blk s H scope (compEnvC scope cl C X.env) fp) cond (tT X.K Z' W0 t))
    (he : ∀ (s : Shared) (H : Hp) (C : Addr) (cl : List (Str × Addr)) (fp : List Addr) (Z' : En), PE (X.blk s H scope (compEnvC scope cl C X.env) fp) elt (tD X.K Z' W0 e))
    (hs : ∀ x, foldedSetIterable iter X.env x = pure x := by intro _; rfl) : ∃ t' : TE, (∀ {σ H Q}, tF X.K Z W (lcM mi (own.map (·.2)) f t e) σ H Q → t' σ H Q) ∧ PS X (.Assign [.Name y py] (.ListComp elt [⟨tgt, iter, [cond], 0⟩] scope pos) spos) (tAsg t' (gName i)) :=
  ⟨_, fun {σ H Q} h => tLc_of (I := I) hI (fun Z' v σ H Q h => ⟨Z', h⟩) (fun Z' σ H Q h => ⟨Z', h⟩) (fun Z' σ H Q h => ⟨Z', h⟩) h,
    ps_setLc (g := fun v σ H Q => ∃ Z', tG X.K Z' I f v σ H Q) (tt := fun σ H Q => ∃ Z', tT X.K Z' W0 t σ H Q) (te := fun σ H Q => ∃ Z', tD X.K Z' W0 e σ H Q) hc hN hy hyl hsw hi ok
    (fun s H C cl fp => ⟨fun pins s1 σ H1 v u Q Iv r ⟨Z', q⟩ => (hg s H C cl fp Z').run pins s1 σ H1 v u Q Iv r q⟩) (fun s H C cl fp => pts_one ⟨fun pins s1 σ H1 Q Iv ⟨Z', q⟩ => (ht s H C cl fp Z').run pins s1 σ H1 Q Iv q⟩)
    (fun s H C cl fp => ⟨fun pins s1 σ H1 Q Iv ⟨Z', q⟩ => (he s H C cl fp Z').run pins s1 σ H1 Q Iv q⟩) hs⟩
theorem s_lcD {st : Stmt} {mo : M Own} (h : ∃ t : TE, (∀ {σ H Q}, tF X.K Z W mo σ H Q → t σ H Q) ∧ PS X st (tAsg t (gName i))) : PS X st (tS X.K Z W (asgM (frz mo) (gN i))) := by
  obtain ⟨t, ht, h⟩ := h
  exact PS.weak h fun N σ H q => setLc_of ht q
theorem s_lcO {st : Stmt} {mo : M Own} (h : ∃ t : TE, (∀ {σ H Q}, tF X.K Z W mo σ H Q → t σ H Q) ∧ PS X st (tAsg t (gName i))) : PS X st (tS X.K Z W (setO i mo)) := by
  obtain ⟨t, ht, h⟩ := h
  exact PS.weak h fun N σ H q => setO_of ht q
end
end DL
end
section -- DM
set_option Elab.async false
set_option linter.all false
set_option maxRecDepth 100000
namespace DL
open PySem PySem.Spec L2

/-! ### defs -/
inductive RF where
  | ok (d : D) (mu : List Own) | exc (x : Ex) (mu : List Own) | bad
abbrev FD := List D → List Own → RF
/-- the promise of a def: its function on data -/
def spF (K : PySem.W.Frag) (n : Nat) (F : FD) : Sp := fun vs H Q E => vs.length = n ∧ ∃ g ds mu, GR K g H mu ∧ reps K g ds vs ∧ match F ds mu with
  | .ok d mu' => ∀ v H' g', Frm g H g' H' → GR K g' H' mu' → rep K g' d v → Q v H'
  | .exc x mu' => ∀ cls dd H' g', Frm g H g' H' → GR K g' H' mu' → xrep K g' H' x cls dd → E cls dd H'
  | .bad => False
section
variable {K : PySem.W.Frag} {Z0 : En} {g g1 : Gh} {H H1 : Hp} {s : S} {σ : St} {mu : List Own}
/-- a call, its value: the store has changed -/
def callR (F : FD) (ds : List D) : M D := fun s => match F ds s.mu with
  | .ok d mu => .ok d { s with mu := mu }
  | .exc x mu => .exc x { s with mu := mu }
  | .bad => .bad
def callM (F : FD) (ma : M (List D)) : M D := mb ma fun ds => mb (fzs ds) fun xs => callR F xs
end
section
variable {X : Cx} {Z : En} {W : WX} {k : Nat} {f : Addr} {fd : FuncData} {ps : List Str} {x : Str} {p pos : Pos} {e : Expr} {es : List Expr} {ma : M (List D)} {F : FD} {n : Nat} {ds : List Value} {dvs : List V} {dds : List D}
/-- the end of a call's arguments: what the callee wants -/
theorem call_end {g2 : Gh} {s2 : S} {σ : St} {H1 : Hp} {Q : VK} {xs : List D} {vs : List V} (hn : xs.length = n) (sr2 : SRz X.K Z s2 g2 σ H1) (r2 : reps X.K g2 xs vs) (e2 : EEnd X.K Z W g2 σ Q (callR F xs s2)) : spF X.K n F vs H1 Q (fun cls dd H' => W cls dd σ H') := by
  refine ⟨by rw [reps_length r2]; exact hn, g2, xs, s2.mu, sr2.gr, r2, ?_⟩
  unfold callR at e2
  cases q : F xs s2.mu with
  | ok d mu' =>
    rw [q] at e2
    exact fun v H' g' fr gr rp => e2 v H' g' fr.le (sr2.behind fr gr) (repL_of rp)
  | exc y mu' =>
    rw [q] at e2
    exact fun cls dd H' g' fr gr xr => e2 cls dd H' g' fr.le (sr2.behind fr gr) xr
  | bad => rw [q] at e2; exact e2
/-- the number of arguments is right -/
def lenM (n : Nat) (xs : List D) : M (List D) := fun s => if xs.length = n then .ok xs s else .bad
def callN (n : Nat) (F : FD) (dds : List D) (ma : M (List D)) : M D := mb ma fun ds => mb (fzs ds) fun xs => mb (lenM n (xs ++ dds)) fun ys => callR F ys
theorem lenM_end {α : Type} {P : Gh → R α → Prop} {K : PySem.W.Frag} {σ : St} (ie : IsEnd K Z W σ P) {g : Gh} {n : Nat} {xs : List D} {s : S} {h : List D → S → R α} (e : P g (((lenM n xs) s).bind h)) : xs.length = n ∧ P g (h xs s) := by
  unfold lenM at e
  by_cases hn : xs.length = n
  · rw [if_pos hn] at e; exact ⟨hn, e⟩
  · rw [if_neg hn] at e; exact (ie.hb e).elim
theorem d_call (o : Ok X W k) (G : FnOk X.prog X.w X.K X.mg X.base (L2.CX X.prog X.w) k f fd ps (spF X.K n F)) (hg : Gl X x) (hm : X.mg x = some (.ref f)) (hk : PySem.W.keepIn X.K (.ref f) = true) (hb : Binds X.K fd ps ds) (hd : Vals dvs ds) (hdd : ∀ g, reps X.K g dds dvs)
    (ha : PA X (e :: es) (tA X.K Z W ma)) (hdb : (x == ("__debug__" : Str)) = false := by decide) (he : starEach (e :: es) X.env = (false, eval e X.env) :: starEach es X.env := by rfl) (hpl : (backTo pos (starEach es X.env)).any (·.1) = false := by rfl) :
    PE X (.Call (.Name x p) (e :: es) [] pos) (tD X.K Z W (callN n F dds ma)) :=
  PE.weak (pe_callSD G o.room hg hm hk hb hd (fun σ => passAt o.tk σ) ha hdb he hpl) fun σ H Q ⟨s, g, sr, q⟩ => goA isE sr q fun ds s1 vs H1 g1 l1 sr1 r1 e1 => by
    obtain ⟨g2, xs, s2, l2, sr2, r2, e2⟩ := fzs_end isE sr1 r1 e1
    obtain ⟨hn, e3⟩ := lenM_end isE e2
    exact call_end hn sr2 (reps_append r2 (hdd g2)) e3
end

/-! ### a def, by its body -/
/-- the slots at the entry -/
def begS (n : Nat) (ds : List D) : List Sl := ds.map .dat ++ List.replicate (n - ds.length) .non
/-- a body as a function -/
def runB (n : Nat) (m : M Fl) : FD := fun ds mu => match m ⟨begS n ds, mu⟩ with
  | .ok (.rt d) s => .ok d s.mu
  | .ok .nx s => .ok .non s.mu
  | .exc x s => .exc x s.mu
  | _ => .bad
theorem reps_all {K : PySem.W.Frag} {g : Gh} : ∀ {ds : List D} {vs : List V} {i : Nat} {d : D}, reps K g ds vs → (ds.map Sl.dat)[i]? = some (.dat d) → ∃ v, vs[i]? = some v ∧ rep K g d v := fun {ds vs i d} h e => by
  rw [List.getElem?_map] at e
  cases q : ds[i]? with
  | none => rw [q] at e; cases e
  | some x => rw [q] at e; cases e; exact reps_get h q
theorem SR.entry {K : PySem.W.Frag} {g : Gh} {H : Hp} {mu : List Own} {ds : List D} {vs : List V} {N : List Str} (gr : GR K g H mu) (r : reps K g ds vs) (hl : ds.length ≤ N.length) : SR K ⟨g, H, none⟩ ⟨begS N.length ds, mu⟩ g (start N vs) H := by
  have dat : ∀ {i : Nat} {z : Sl}, (begS N.length ds)[i]? = some z → z ≠ .non → ∃ d, z = .dat d ∧ (ds.map Sl.dat)[i]? = some (.dat d) := fun {i z} e hz => by
    unfold begS at e
    by_cases hi : i < ds.length
    · rw [List.getElem?_append_left (by simpa using hi)] at e
      have e' := e
      rw [List.getElem?_map] at e
      cases q : ds[i]? with
      | none => rw [q] at e; cases e
      | some d => rw [q] at e; cases e; exact ⟨d, rfl, e'⟩
    · rw [List.getElem?_append_right (by simpa using Nat.le_of_not_lt hi), List.getElem?_replicate] at e
      split at e
      · cases e; exact absurd rfl hz
      · cases e
  refine ⟨gr, Frm.refl gr.sub, fun i d e => ?_, fun i o e => ?_, fun i o e => ?_, fun i j o u a h1 _ _ _ => ?_, ?_, fun i C fs h1 => ?_⟩
  · obtain ⟨d', h1, h2⟩ := dat e (by intro z; cases z)
    cases h1
    obtain ⟨v, k1, k2⟩ := reps_all r h2
    refine ⟨v, ?_, k2⟩
    have hi : i < vs.length := (List.getElem?_eq_some_iff.mp k1).1
    show (vs.map some ++ _)[i]? = _
    rw [List.getElem?_append_left (by simpa using hi), List.getElem?_map, k1]
    rfl
  · obtain ⟨d', h1, _⟩ := dat e (by intro z; cases z)
    cases h1
  · obtain ⟨d', h1, _⟩ := dat e (by intro z; cases z)
    cases h1
  · obtain ⟨d', h1, _⟩ := dat h1 (by intro z; cases z)
    cases h1
  · show (ds.map Sl.dat ++ List.replicate _ _).length = (vs.map some ++ List.replicate _ _).length
    simp [reps_length r]
  · obtain ⟨d', h2, _⟩ := dat h1 (by intro z; cases z)
    cases h2
section
variable {P : Program} {w : World} {K : PySem.W.Frag} {mg : Str → Option Value} {base : Heap}
/-- THE RULE for a def: its body's derivation; F is any function that the body computes -/
theorem fnD {x qual : Str} {st : Stmt} {f : Addr} {fd : FuncData} {N ps : List Str} {k : Nat} {F : FD} {n : Nat} {m : M Fl} (Fn : Fun K x qual st f fd) (Sc : FnScope N ps (defScope st)) (hn : ps.length = n) (hN : n ≤ N.length)
    (hbody : ∀ (cdv : Value) (A : Around) (outer : List Env) (s : Shared) (H : Hp) (E : XK) (Z : En), Ok (cxOf (L2.CX P w) P w K mg base N qual (defScope st) f cdv A outer s H E) (fun cls d _ H => E cls d H) k →
      PSs (cxOf (L2.CX P w) P w K mg base N qual (defScope st) f cdv A outer s H E) (defBody st) (tS K Z (fun cls d _ H => E cls d H) m))
    (hF : ∀ ds mu, ds.length = n → F ds mu = .bad ∨ runB N.length m ds mu = F ds mu) : FnOk P w K mg base (L2.CX P w) (k + 1) f fd ps (spF K n F) := by
  subst hn
  refine Fn.okX Sc (fun vs H Q E h => h.1) fun cdv A outer s H vs Q E hr h => ?_
  obtain ⟨hl, g, ds, mu, gr, r, h⟩ := h
  have hds : ds.length = ps.length := by rw [← reps_length r]; exact hl
  let X := cxOf (L2.CX P w) P w K mg base N qual (defScope st) f cdv A outer s H E
  have tk : Takes X (fun cls d _ H => E cls d H) := takes_of rfl rfl rfl rfl
  have ok : Ok X (fun cls d _ H => E cls d H) k := ⟨rfl, Sc.nd, hr, tk, passes_of rfl⟩
  refine ⟨_, hbody cdv A outer s H E ⟨g, H, none⟩ ok, ⟨begS N.length ds, mu⟩, g, SR.entry gr r (by omega), ?_⟩
  rcases hF ds mu hds with hb | hb
  · rw [hb] at h; exact h.elim
  · rw [← hb] at h
    unfold runB at h
    cases q : m ⟨begS N.length ds, mu⟩ with
    | bad => rw [q] at h; exact h
    | exc y s1 =>
      rw [q] at h
      exact fun σ cls dd H' g' le sr xr => h cls dd H' g' sr.fr sr.gr xr
    | ok fl s1 =>
      rw [q] at h
      cases fl with
      | nx => exact fun σ H' g' le sr => h .non H' g' sr.fr sr.gr rfl
      | rt d => exact fun v σ H' g' le sr rp => h v H' g' sr.fr sr.gr rp
      | bk => exact h.elim
      | ct => exact h.elim
end
end DL
end
section -- DN
set_option Elab.async false
set_option linter.all false
set_option maxRecDepth 100000
namespace DL
open PySem PySem.Spec L2

theorem Ok.blk {X : Cx} {W : WX} {k : Nat} (o : Ok X W k) (s : Shared) (H : Hp) (scope : Scope) (cenv : Env) (fp : List Addr) : Ok (X.blk s H scope cenv fp) W0 k :=
  ⟨o.calm, o.nd, o.room, fun u s' h => by
    obtain ⟨a, B, sI, pins, σ, H, cls, d, _, _, _, _, _, _, _, _, w⟩ := h
    exact w.elim, PassesOwn.never⟩

/-! ### methods of own classes -/
section
variable {X : Cx} {Z : En} {W : WX} {k : Nat} {f C : Addr} {fd : FuncData} {ps : List Str} {x m : Str} {p pos apos : Pos} {o e : Expr} {es : List Expr} {mo : M D} {ma : M (List D)} {F : FD} {n : Nat} {ds : List Value} {dvs : List V} {dds : List D}
def objM (C : Addr) (m : Str) (x : D) : M Unit := mopt fun s => match dd s x with
  | some (.obj C' fs) => if C' = C ∧ fs.lookup m = none then some () else none
  | _ => none
def methN (C : Addr) (m : Str) (n : Nat) (F : FD) (dds : List D) (mo : M D) (ma : M (List D)) : M D := mb mo fun x => mb (objM C m x) fun _ => mb ma fun ds => mb (fzs (x :: ds)) fun xs => mb (lenM n (xs ++ dds)) fun ys => callR F ys
theorem objM_end {α : Type} {K : PySem.W.Frag} {P : Gh → R α → Prop} {σ : St} {H : Hp} {g : Gh} {s : S} {d : D} {v : V} {h : Unit → S → R α} (ie : IsEnd K Z W σ P) (sr : SRz K Z s g σ H) (r : repL K g σ d v) (e : P g (((objM C m d) s).bind h)) :
    ∃ a dx fs, v = .ref a ∧ H a = some (.ins C dx fs) ∧ fs.lookup m = none ∧ P g (h () s) := by
  obtain ⟨u, hu, q⟩ := mopt_end ie e
  cases hd : dd s d with
  | none => rw [hd] at hu; cases hu
  | some y =>
    rw [hd] at hu
    cases y with
    | obj C' fs =>
      simp only at hu
      split at hu
      · rename_i hC
        obtain ⟨rfl, hl⟩ := hC
        obtain ⟨a, dx, vs, e1, e2, e3⟩ := dd_rd sr r hd
        exact ⟨a, dx, vs, e1, e2, repF_lookup_none e3 hl, q⟩
      · cases hu
    | _ => cases hu
theorem d_meth {pl : Sem Bool} (ok : Ok X W k) (he : PE X o (tD X.K Z W mo)) (c : Cls X.K C) (hm : Meth X.K C m f) (G : FnOk X.prog X.w X.K X.mg X.base (L2.CX X.prog X.w) k f fd ps (spF X.K n F)) (hb : Binds X.K fd ps ds) (hd : Vals dvs ds) (hdd : ∀ g, reps X.K g dds dvs) (ha : PA X (e :: es) (tA X.K Z W ma))
    (hst : starEach (e :: es) X.env = (false, eval e X.env) :: starEach es X.env := by rfl) (hpl : (backTo pos (starEach es X.env)).any (·.1) = false := by rfl)
    (ht : eval (.Call (.Attribute o m apos) (e :: es) [] pos) X.env = (do
      let ov ← eval o X.env
      standAt apos.atName
      let (f, first) ← holding [ov] (getMethod ov m pl)
      callWith pos f first (backTo pos (starEach (e :: es) X.env)) (backToKw pos (keywordEach [] X.env))) := by rfl) :
    PE X (.Call (.Attribute o m apos) (e :: es) [] pos) (tD X.K Z W (methN C m n F dds mo ma)) := by
  refine ⟨fun pins s σ H Q I ⟨s0, g0, sr, q⟩ => ?_⟩
  refine PySem.W.methodCall_KW (pl := pl) (thn (he.run pins s σ H _ I (goD isE sr q (k := fun x H1 => ∃ a dx fs, x = .ref a ∧ H1 a = some (.ins C dx fs) ∧ fs.lookup m = none ∧ tA X.K Z W ma σ H1 fun vs H2 => spF X.K n F (x :: (vs ++ dvs)) H2 Q (fun cls dd H' => W cls dd σ H')) fun d1 s1 v1 H1 g1 l1 sr1 r1 e1 => ?_)) fun u s1 ⟨x, H1, I1, rx, a, dx, fs, ex, ea, l, q⟩ => ?_) ht
  · obtain ⟨a, dx, fs, rfl, h2, h3, e2⟩ := objM_end isE sr1 r1 e1
    refine ⟨a, dx, fs, rfl, h2, h3, goA isE sr1 e2 fun ds s2 vs H2 g2 l2 sr2 r2 e3 => ?_⟩
    obtain ⟨g3, xs, s3, l3, sr3, r3, e4⟩ := fzs_end isE sr2 (ds := d1 :: ds) (vs := .ref a :: vs) ⟨_, vs, rfl, repL_mono l2 r1, r2⟩ e3
    obtain ⟨hn, e5⟩ := lenM_end isE e4
    exact call_end hn sr3 (reps_append r3 (hdd g3)) e5
  · subst ex
    obtain rfl : u = Value.ref a := rx
    refine getmeth_ok I1 ea c hm l ?_
    refine PySem.W.callWith_K (first := [.ref a]) (h₀ := X.base) I.ok.mod.kin hm.kp (thn (ha.run pos pins s1 σ H1 _ I1 q) fun us s2 ⟨vs, H2, I2, r, q2⟩ => ⟨I2.kIn, ?_⟩) hst hpl
    exact run_fnSD (us := .ref a :: us) (vs := .ref a :: vs) (E := fun σ cls dd H' => W cls dd σ H') G ok.room hb hd (passAt ok.tk σ) I2 (.cons rfl r) q2
theorem d_meth0 {pl : Sem Bool} (ok : Ok X W k) (he : PE X o (tD X.K Z W mo)) (c : Cls X.K C) (hm : Meth X.K C m f) (G : FnOk X.prog X.w X.K X.mg X.base (L2.CX X.prog X.w) k f fd ps (spF X.K n F)) (hb : Binds X.K fd ps ds) (hd : Vals dvs ds) (hdd : ∀ g, reps X.K g dds dvs)
    (ht : eval (.Call (.Attribute o m apos) [] [] pos) X.env = (do
      let ov ← eval o X.env
      standAt apos.atName
      let (f, first) ← holding [ov] (getMethod ov m pl)
      callWith pos f first (backTo pos (starEach [] X.env)) (backToKw pos (keywordEach [] X.env))) := by rfl) :
    PE X (.Call (.Attribute o m apos) [] [] pos) (tD X.K Z W (methN C m n F dds mo aNil)) := by
  refine ⟨fun pins s σ H Q I ⟨s0, g0, sr, q⟩ => ?_⟩
  refine PySem.W.methodCall_KW (pl := pl) (thn (he.run pins s σ H _ I (goD isE sr q (k := fun x H1 => ∃ a dx fs, x = .ref a ∧ H1 a = some (.ins C dx fs) ∧ fs.lookup m = none ∧ spF X.K n F (x :: dvs) H1 Q (fun cls dd H' => W cls dd σ H')) fun d1 s1 v1 H1 g1 l1 sr1 r1 e1 => ?_)) fun u s1 ⟨x, H1, I1, rx, a, dx, fs, ex, ea, l, q⟩ => ?_) ht
  · obtain ⟨a, dx, fs, rfl, h2, h3, e2⟩ := objM_end isE sr1 r1 e1
    refine ⟨a, dx, fs, rfl, h2, h3, ?_⟩
    obtain ⟨g3, xs, s3, l3, sr3, r3, e4⟩ := fzs_end isE sr1 (ds := [d1]) (vs := [.ref a]) ⟨_, [], rfl, r1, rfl⟩ e2
    obtain ⟨hn, e5⟩ := lenM_end isE e4
    exact call_end hn sr3 (reps_append r3 (hdd g3)) e5
  · subst ex
    obtain rfl : u = Value.ref a := rx
    refine getmeth_ok I1 ea c hm l ?_
    exact PySem.W.callWith_K0 (first := [.ref a]) I1.kIn hm.kp (run_fnSD (us := [.ref a]) (vs := [.ref a]) (E := fun σ cls dd H' => W cls dd σ H') G ok.room hb hd (passAt ok.tk σ) I1 (.cons rfl .nil) q)
end

/-! ### objects made -/
inductive RI where
  | ok (fs : List (Str × D)) (mu : List Own) | exc (x : Ex) (mu : List Own) | bad
abbrev FI := List D → List Own → RI
/-- the promise of an __init__: the fields that it stores -/
def spI (K : PySem.W.Frag) (C : Addr) (n : Nat) (F : FI) : Sp := fun vs H Q E => vs.length = n ∧ ∃ x dx vs', vs = .ref x :: vs' ∧ H x = some (.ins C dx []) ∧ ∃ g ds mu, GR K g (dropH H x) mu ∧ g.G x = none ∧ x ∉ g.as ∧ reps K g ds vs' ∧ match F ds mu with
  | .ok fs mu' => ∀ H' g', Frm g (dropH H x) g' H' → GR K g' H' mu' → (∃ dx' fvs, H' x = some (.ins C dx' fvs) ∧ repF K g' fs fvs) → g'.G x = none → x ∉ g'.as → Q .non H'
  | .exc y mu' => ∀ cls dd H' g', Frm g (dropH H x) g' H' → GR K g' H' mu' → xrep K g' H' y cls dd → E cls dd H'
  | .bad => False
/-- an __init__'s body as a function -/
def finI (C : Addr) (s : S) : RI := match s.sl[(0 : Nat)]? with
  | some (.own (.obj C' fs)) => if C' = C then .ok fs s.mu else .bad
  | _ => .bad
def runI (N : Nat) (C : Addr) (m : M Fl) : FI := fun ds mu =>
  match m ⟨.own (.obj C []) :: begS (N - 1) ds, mu⟩ with
  | .ok (.rt .non) s => finI C s
  | .ok .nx s => finI C s
  | .exc x s => .exc x s.mu
  | _ => .bad
section
variable {P : Program} {w : World} {K : PySem.W.Frag} {mg : Str → Option Value} {base : Heap}
theorem SR.entryI {g : Gh} {H : Hp} {mu : List Own} {ds : List D} {vs : List V} {N : List Str} {x dx C : Addr} (hx : H x = some (.ins C dx [])) (gr : GR K g (dropH H x) mu) (gx : g.G x = none) (nx : x ∉ g.as) (r : reps K g ds vs) (hl : ds.length + 1 ≤ N.length) :
    SR K ⟨g, dropH H x, some x⟩ ⟨.own (.obj C []) :: begS (N.length - 1) ds, mu⟩ g (L2.start N (.ref x :: vs)) H := by
  have e0 : L2.start N (.ref x :: vs) = some (.ref x) :: (vs.map some ++ List.replicate (N.length - 1 - vs.length) none) := by
    unfold L2.start
    simp [List.length_cons, Nat.sub_sub, Nat.add_comm]
  have gr' : GR K g H mu := by
    have := gr.put (u := .ins C dx []) gx nx
    rwa [upd_dropH hx] at this
  have dat : ∀ {i : Nat} {z : Sl}, (begS (N.length - 1) ds)[i]? = some z → z ≠ .non → ∃ d, z = .dat d ∧ (ds.map Sl.dat)[i]? = some (.dat d) := fun {i z} e hz => by
    unfold begS at e
    by_cases hi : i < ds.length
    · rw [List.getElem?_append_left (by simpa using hi)] at e
      have e' := e
      rw [List.getElem?_map] at e
      cases q : ds[i]? with
      | none => rw [q] at e; cases e
      | some d => rw [q] at e; cases e; exact ⟨d, rfl, e'⟩
    · rw [List.getElem?_append_right (by simpa using Nat.le_of_not_lt hi), List.getElem?_replicate] at e
      split at e
      · cases e; exact absurd rfl hz
      · cases e
  have fr : Frm g (dropH H x) g H := by
    have := (Frm.refl gr.sub).put (p := x) (u := .ins C dx []) dropH_same
    rwa [upd_dropH hx] at this
  refine ⟨gr', fr, fun i d e => ?_, fun i o e => ?_, fun i o e => ?_, fun i j o u a h1 h2 _ _ => ?_, ?_, fun i C' fs e => ?_⟩
  · cases i with
    | zero => cases e
    | succ i =>
      obtain ⟨d', h1, h2⟩ := dat (by simpa using e) (by intro z; cases z)
      cases h1
      obtain ⟨v, k1, k2⟩ := reps_all r h2
      refine ⟨v, ?_, k2⟩
      have hi : i < vs.length := (List.getElem?_eq_some_iff.mp k1).1
      rw [e0, List.getElem?_cons_succ, List.getElem?_append_left (by simpa using hi), List.getElem?_map, k1]
      rfl
  · cases i with
    | zero =>
      cases e
      exact ⟨x, by rw [e0]; rfl, ⟨dx, [], hx, rfl⟩, gx, nx, dropH_same⟩
    | succ i =>
      obtain ⟨d', h1, _⟩ := dat (by simpa using e) (by intro z; cases z)
      cases h1
  · cases i with
    | zero => cases e
    | succ i =>
      obtain ⟨d', h1, _⟩ := dat (by simpa using e) (by intro z; cases z)
      cases h1
  · have key : ∀ {i : Nat} {o : Own}, (Sl.own (.obj C []) :: begS (N.length - 1) ds)[i]? = some (.own o) → i = 0 := fun {i o} e => by
      cases i with
      | zero => rfl
      | succ i =>
        obtain ⟨d', h1, _⟩ := dat (by simpa using e) (by intro z; cases z)
        cases h1
    rw [key h1, key h2]
  · rw [e0]
    unfold begS
    simp [reps_length r]
  · cases i with
    | zero => exact ⟨x, rfl, by rw [e0]; rfl⟩
    | succ i =>
      obtain ⟨d', h1, _⟩ := dat (by simpa using e) (by intro z; cases z)
      cases h1
theorem initD {x qual : Str} {st : Stmt} {f C : Addr} {fd : FuncData} {N ps : List Str} {k : Nat} {n : Nat} {m : M Fl} (Fn : Fun K x qual st f fd) (Sc : FnScope N ps (defScope st)) (hn : ps.length = n) (hN : n ≤ N.length)
    (hbody : ∀ (cdv : Value) (A : Around) (outer : List Env) (s : Shared) (H : Hp) (E : XK) (Z : En), Ok (cxOf (L2.CX P w) P w K mg base N qual (defScope st) f cdv A outer s H E) (fun cls d _ H => E cls d H) k →
      PSs (cxOf (L2.CX P w) P w K mg base N qual (defScope st) f cdv A outer s H E) (defBody st) (tS K Z (fun cls d _ H => E cls d H) m)) : FnOk P w K mg base (L2.CX P w) (k + 1) f fd ps (spI K C n (runI N.length C m)) := by
  subst hn
  refine Fn.okX Sc (fun vs H Q E h => h.1) fun cdv A outer s H vs Q E hr h => ?_
  obtain ⟨hl, x, dx, vs', rfl, hx, g, ds, mu, gr, gx, nx, r, h⟩ := h
  have hds : ds.length + 1 = ps.length := by rw [← reps_length r]; exact hl
  have tk : Takes (cxOf (L2.CX P w) P w K mg base N qual (defScope st) f cdv A outer s H E) (fun cls d _ H => E cls d H) := takes_of rfl rfl rfl rfl
  have ok : Ok (cxOf (L2.CX P w) P w K mg base N qual (defScope st) f cdv A outer s H E) (fun cls d _ H => E cls d H) k := ⟨rfl, Sc.nd, hr, tk, passes_of rfl⟩
  have se := SR.entryI (N := N) hx gr gx nx r (by omega)
  refine ⟨_, hbody cdv A outer s H E ⟨g, dropH H x, some x⟩ ok, _, g, se, ?_⟩
  have fin : ∀ {s1 : S}, (match finI C s1 with
      | .ok fs mu' => ∀ H' g', Frm g (dropH H x) g' H' → GR K g' H' mu' → (∃ dx' fvs, H' x = some (.ins C dx' fvs) ∧ repF K g' fs fvs) → g'.G x = none → x ∉ g'.as → Q .non H'
      | .exc y mu' => ∀ cls dd H' g', Frm g (dropH H x) g' H' → GR K g' H' mu' → xrep K g' H' y cls dd → E cls dd H'
      | .bad => False) → ∀ {σ : St} {H' : Hp} {g' : Gh}, SRz K ⟨g, dropH H x, some x⟩ s1 g' σ H' → Q .non H' := by
    intro s1 h σ H' g' sr
    unfold finI at h
    cases q : s1.sl[0]? with
    | none => rw [q] at h; exact h.elim
    | some z =>
      rw [q] at h
      cases z with
      | own o =>
        cases o with
        | obj C' fs =>
          simp only at h
          by_cases hC : C' = C
          · subst hC
            rw [if_pos rfl] at h
            obtain ⟨a, k1, ⟨dx', fvs, k2, k2'⟩, k3, k4, k5⟩ := sr.own 0 _ q
            obtain ⟨b, j1, j2⟩ := sr.self 0 _ _ q
            cases j1
            rw [k1] at j2
            cases j2
            exact h H' g' sr.fr sr.gr ⟨dx', fvs, k2, k2'⟩ k3 k4
          · rw [if_neg hC] at h; exact h.elim
        | lst _ => exact h.elim
        | dct _ => exact h.elim
      | non => exact h.elim
      | dat _ => exact h.elim
      | bor _ => exact h.elim
  unfold runI at h
  cases q : m ⟨.own (.obj C []) :: begS (N.length - 1) ds, mu⟩ with
  | bad => rw [q] at h; exact h
  | exc y s1 =>
    rw [q] at h
    exact fun σ cls dd H' g' le sr xr => h cls dd H' g' sr.fr sr.gr xr
  | ok fl s1 =>
    rw [q] at h
    cases fl with
    | nx => exact fun σ H' g' le sr => fin h sr
    | rt d =>
      cases d with
      | non =>
        intro v σ H' g' le sr rp
        have hv : v = .non := rp
        rw [hv]
        exact fin h sr
      | _ => exact h.elim
    | bk => exact h.elim
    | ct => exact h.elim
end
/-- C(..): the object made, frozen -/
def makeM (C : Addr) (n : Nat) (F : FI) (dds : List D) (ma : M (List D)) : M D := mb ma fun ds => mb (fzs ds) fun xs => mb (lenM n (xs ++ dds)) fun ys => fun s => match F ys s.mu with
  | .ok fs mu => .ok (.obj C fs) { s with mu := mu }
  | .exc x mu => .exc x { s with mu := mu }
  | .bad => .bad
section
variable {X : Cx} {Z : En} {W : WX} {k : Nat} {f C : Addr} {fd : FuncData} {ps : List Str} {x : Str} {p pos : Pos} {e : Expr} {es : List Expr} {ma : M (List D)} {F : FI} {n : Nat} {ds : List Value} {dvs : List V} {dds : List D}
theorem make_end {g2 : Gh} {s2 : S} {σ : St} {H1 : Hp} {Q : VK} {xs : List D} {vs : List V} (hn : xs.length = n) (sr2 : SRz X.K Z s2 g2 σ H1) (r2 : reps X.K g2 xs vs)
    (e2 : EEnd X.K Z W g2 σ Q (match F xs s2.mu with | .ok fs mu => R.ok (D.obj C fs) { s2 with mu := mu } | .exc x mu => .exc x { s2 with mu := mu } | .bad => .bad))
    {a dx : Addr} (ha : H1 a = none) (hdx : H1 dx = none) (hne : dx ≠ a) : spI X.K C (n + 1) F (.ref a :: vs) (upd (upd H1 dx (.own a)) a (.ins C dx [])) (fun v H2 => v = .non ∧ Q (.ref a) H2) (fun cls dd H' => W cls dd σ H') := by
  have noG : ∀ {b : Addr}, H1 b = none → g2.G b = none ∧ b ∉ g2.as := fun {b} hb => by
    refine ⟨?_, fun z => ?_⟩
    · cases q : g2.G b with
      | none => rfl
      | some x => have := sr2.gr.sub _ _ q; rw [hb] at this; cases this
    · obtain ⟨x, hx⟩ := sr2.gr.mem z
      rw [hb] at hx; cases hx
  have hdrop : dropH (upd (upd H1 dx (.own a)) a (.ins C dx [])) a = upd H1 dx (.own a) := by
    funext b
    by_cases h : b = a
    · subst h; rw [dropH_same, upd_ne (Ne.symm hne), ha]
    · rw [dropH_ne h, upd_ne h]
  have gr0 : GR X.K g2 (upd H1 dx (.own a)) s2.mu := sr2.gr.put (noG hdx).1 (noG hdx).2
  refine ⟨by simp [reps_length r2, hn], a, dx, vs, rfl, upd_same, g2, xs, s2.mu, by rw [hdrop]; exact gr0, (noG ha).1, (noG ha).2, r2, ?_⟩
  have weak : ∀ {g' : Gh} {H' : Hp}, Frm g2 (dropH (upd (upd H1 dx (.own a)) a (.ins C dx [])) a) g' H' → Frm g2 H1 g' H' := fun {g' H'} fr => by
    rw [hdrop] at fr
    refine ⟨fr.le, fun b o h1 h2 => fr.keep b o (by rw [upd_ne (fun z => by rw [z, hdx] at h1; cases h1)]; exact h1) h2, fun b h => ?_, fun b h => ?_, fun b h => ?_⟩
    · have := fr.there b h
      by_cases z : b = dx
      · subst z; exact hdx
      · rwa [upd_ne z] at this
    · rcases fr.frz b h with y | y
      · exact .inl y
      · by_cases z : b = dx
        · subst z; exact .inr hdx
        · rw [upd_ne z] at y; exact .inr y
    · rcases fr.new b h with y | y
      · exact .inl y
      · by_cases z : b = dx
        · subst z; exact .inr hdx
        · rw [upd_ne z] at y; exact .inr y
  cases q : F xs s2.mu with
  | bad => rw [q] at e2; exact e2
  | exc y mu =>
    rw [q] at e2
    exact fun cls dd H' g' fr gr xr => e2 cls dd H' g' fr.le (sr2.behind (weak fr) gr) xr
  | ok fs mu =>
    rw [q] at e2
    intro H' g' fr gr hobj gx nx
    refine ⟨rfl, ?_⟩
    obtain ⟨dx', fvs, k1, k2⟩ := hobj
    have fr1 := weak fr
    have le : Gle g' ⟨upd g'.G a (.ins C dx' fvs), g'.as⟩ := ⟨fun b u z => by
      show upd g'.G a _ b = some u
      rw [upd_ne (fun y => by rw [y, gx] at z; cases z)]; exact z, [], by simp⟩
    have gr2 : GR X.K ⟨upd g'.G a (.ins C dx' fvs), g'.as⟩ H' mu := by
      refine ⟨fun b u z => ?_, gr.len, fun j o b q1 q2 => ?_, gr.nd⟩
      · by_cases h : b = a
        · subst h
          have z : upd g'.G b _ b = some u := z
          rw [upd_same] at z
          cases z
          exact k1
        · have z : upd g'.G a _ b = some u := z
          rw [upd_ne h] at z
          exact gr.sub _ _ z
      · obtain ⟨z1, z2⟩ := gr.st j o b q1 q2
        refine ⟨z1.mono le rfl, ?_⟩
        show upd g'.G a _ b = none
        rw [upd_ne (fun y => nx (by rw [← y]; exact List.mem_of_getElem? q2))]
        exact z2
    have fr2 : Frm g2 H1 ⟨upd g'.G a (.ins C dx' fvs), g'.as⟩ H' := ⟨fr1.le.trans le, fr1.keep, fr1.there, fun b h => by
      by_cases z : b = a
      · subst z; exact .inr ha
      · have h : upd g'.G a _ b ≠ none := h
        rw [upd_ne z] at h
        exact fr1.frz b h, fr1.new⟩
    exact e2 (.ref a) H' _ fr2.le (sr2.behind fr2 gr2) ⟨a, dx', fvs, rfl, upd_same, repF_mono le _ _ k2⟩
theorem run_makeS {pins : List (Addr × Obj)} {σ : St} {H : Hp} {s : Shared} {Q : VK} {us : List Value} {vs : List V} {E : XK} {sp : Sp} {ds : List Value} {dvs : List V} (M : Mk X.K C f) (G : FnOk X.prog X.w X.K X.mg X.base (L2.CX X.prog X.w) k f fd ps sp) (hr : Room (k + 1) X.A) (hb : Binds X.K fd ps ds) (hd : Vals dvs ds)
    (hx : ∀ H2 s2 e s', Inv X pins σ H2 s2 → L2.CX X.prog X.w X.stack H2 s2 E e s' → X.xe e s') (I : Inv X pins σ H s) (r : Vals vs us)
    (h : ∀ x dx, H x = none → H dx = none → dx ≠ x → sp (.ref x :: (vs ++ dvs)) (upd (upd H dx (.own x)) x (.ins C dx [])) (fun v H2 => v = .non ∧ Q (.ref x) H2) E) :
    wpAny (model X.prog X.w) X.A (call (.ref C) us) (EP X pins σ Q) X.xe s := by
  have hq := h (s.heap.objs.size + 1) s.heap.objs.size (I.hok.fresh (Nat.le_succ _)) (I.hok.fresh (Nat.le_refl _)) (Nat.ne_of_lt (Nat.lt_succ_self _))
  have I2 := Inv.made (C := C) I
  have r2 : Vals (V.ref (s.heap.objs.size + 1) :: (vs ++ dvs)) (Value.ref (s.heap.objs.size + 1) :: (us ++ ds)) := .cons rfl (r.append hd)
  have hl : (Value.ref (s.heap.objs.size + 1) :: us ++ ds).length = ps.length := by
    have e := r2.length
    rw [G.len _ _ _ _ hq] at e
    exact e.symm
  refine wpAny_call (make_map (f := f) I.kIn M.makes M.init (beq_iff_eq.mp M.fn) (codeAny_mono (G.run _ X.stack _ _ ⟨Value.ref (s.heap.objs.size + 1) :: us, []⟩ (Value.ref (s.heap.objs.size + 1) :: (us ++ ds)) _ _ E (hr.make C us [])
    (I2.env0.make C us []) (hb _ (Value.ref (s.heap.objs.size + 1) :: us) I2.kIn hl) r2 hq) fun r s' hq' => ?_))
  cases r with
  | error e => exact hx _ _ e s' I2 hq'
  | ok fl =>
    cases fl with
    | ret u =>
      obtain ⟨v, H', I3, rv, ev, q3⟩ := I2.after hq'
      subst ev
      exact ⟨rv, ⟨V.ref (s.heap.objs.size + 1), H', I3, rfl, q3⟩⟩
    | next => exact False.elim hq'
    | brk => exact False.elim hq'
    | cont => exact False.elim hq'
theorem d_make (ok : Ok X W (k + 1)) (M : Mk X.K C f) (G : FnOk X.prog X.w X.K X.mg X.base (L2.CX X.prog X.w) k f fd ps (spI X.K C (n + 1) F)) (hg : Gl X x) (hm : X.mg x = some (.ref C)) (hb : Binds X.K fd ps ds) (hd : Vals dvs ds) (hdd : ∀ g, reps X.K g dds dvs)
    (ha : PA X (e :: es) (tA X.K Z W ma)) (hdb : (x == ("__debug__" : Str)) = false := by decide) (he : starEach (e :: es) X.env = (false, eval e X.env) :: starEach es X.env := by rfl) (hpl : (backTo pos (starEach es X.env)).any (·.1) = false := by rfl) :
    PE X (.Call (.Name x p) (e :: es) [] pos) (tD X.K Z W (makeM C n F dds ma)) := by
  refine ⟨fun pins s σ H Q I ⟨s0, g0, sr, q⟩ => ?_⟩
  refine wpAny_Call_Name_kw (ld_glob I hg hm ?_ hdb)
  refine PySem.W.callWith_K (h₀ := X.base) I.ok.mod.kin M.kp (thn (ha.run pos pins s σ H (fun vs H1 => ∀ a dx, H1 a = none → H1 dx = none → dx ≠ a → spI X.K C (n + 1) F (.ref a :: (vs ++ dvs)) (upd (upd H1 dx (.own a)) a (.ins C dx [])) (fun v H2 => v = .non ∧ Q (.ref a) H2) (fun cls dd H' => W cls dd σ H')) I
    (goA isE sr q fun ds s1 vs H1 g1 l1 sr1 r1 e1 => ?_)) fun us s1 ⟨vs, H1, I1, r, q⟩ => ⟨I1.kIn, ?_⟩) he hpl
  · obtain ⟨g2, xs, s2, l2, sr2, r2, e2⟩ := fzs_end isE sr1 r1 e1
    obtain ⟨hn, e3⟩ := lenM_end isE e2
    intro a dx h1 h2 h3
    exact make_end hn sr2 (reps_append r2 (hdd g2)) e3 h1 h2 h3
  · exact run_makeS M G ok.room hb hd (fun H2 s2 e s' I2 c => passAt ok.tk σ pins H2 s2 e s' I2 c) I1 r q
end
end DL
end
section -- DO
set_option Elab.async false
set_option linter.all false
set_option maxRecDepth 100000
namespace DL
open PySem PySem.Spec L2

/-! ### more expressions -/
section
variable {X : Cx} {Z : En} {W : WX} {k : Nat} {a b c e : Expr} {t1 : M Bool} {o1 o2 : M Own} {m m1 m2 : M D} {ma : M (List D)} {pos : Pos} {K : PySem.W.Frag}
def ifF (t : M Bool) (a b : M Own) : M Own := mb t fun c => if c = true then a else b
theorem f_if (hc : PT X c (tT X.K Z W t1)) (ha : PE X a (tF X.K Z W o1)) (hb : PE X b (tF X.K Z W o2)) : PE X (.IfExp c a b pos) (tF X.K Z W (ifF t1 o1 o2)) :=
  PE.weak (pe_ifExp hc ha hb) fun σ H Q ⟨s, g, sr, e⟩ => goT isF sr e fun d1 s1 H1 g1 l1 sr1 e1 => by
    cases d1 with
    | true => rw [if_pos rfl] at e1 ⊢; exact ⟨s1, g1, sr1, e1⟩
    | false => rw [if_neg Bool.false_ne_true] at e1 ⊢; exact ⟨s1, g1, sr1, e1⟩
/-- a statement that is not reached -/
theorem s_never {st : Stmt} : PS X st (tS X.K Z W fun _ => .bad) := PS.weak ps_never fun D σ H ⟨s, g, sr, e⟩ => e.elim
/-- -a -/
def negD (m : M D) : M D := mb m fun d => mopt fun _ => match d with | .int i => some (.int (-i)) | _ => none
theorem d_neg (h : PE X e (tD X.K Z W m)) : PE X (.UnaryOp .USub e pos) (tD X.K Z W (negD m)) :=
  PE.weak (pe_un un_neg h) fun σ H Q ⟨s, g, sr, e⟩ => goD isE sr e fun d1 s1 v1 H1 g1 l1 sr1 r1 e1 => by
    obtain ⟨d, hd, q⟩ := mopt_endE isE e1
    cases d1 with
    | int i => cases hd; exact ⟨i, r1, q _ H1 g1 (Gle.refl _) sr1 rfl⟩
    | _ => cases hd
def powC (i j : Int) : Bool := decide (0 ≤ j) && decide (j ≤ 1000000) && decide (i.natAbs < 2 ^ 64)
theorem powC_ok (i j : Int) (h : powC i j = true) : CPow i j := by
  simp only [powC, Bool.and_eq_true, decide_eq_true_eq] at h
  exact ⟨h.1.1, h.1.2, h.2⟩
/-- xs[::-1] -/
def revM (m : M D) : M D := mb m fun d => mopt fun s => (rdL s d).map fun xs => .lst xs.reverse
theorem reps_reverse {g : Gh} : ∀ {ds : List D} {vs : List V}, reps K g ds vs → reps K g ds.reverse vs.reverse
  | [], _, h => by cases h; rfl
  | d :: ds, vs, h => by
    obtain ⟨v, r, rfl, h1, h2⟩ := h
    rw [List.reverse_cons, List.reverse_cons]
    exact reps_append (reps_reverse h2) (reps_one h1)
theorem d_rev {kk : Nat} {p1 p2 p3 : Pos} (h : PE X e (tD X.K Z W m)) : PE X (.Subscript e (.Slice none none (some (.UnaryOp .USub (.Constant (.int 1) kk p1) p2)) p3) pos) (tD X.K Z W (revM m)) :=
  PE.weak (pe_revL h) fun σ H Q ⟨s, g, sr, e⟩ => goD isE sr e fun d1 s1 v1 H1 g1 l1 sr1 r1 e1 => by
    obtain ⟨d, hd, q⟩ := mopt_endE isE e1
    cases h : rdL s1 d1 with
    | none => rw [h] at hd; cases hd
    | some xs =>
      rw [h] at hd
      cases hd
      obtain ⟨p, vs, rfl, e2, e3⟩ := rdL_ok sr1 r1 h
      refine ⟨p, vs, rfl, SqL.of e2, fun n hn => ?_⟩
      obtain ⟨g', l, sr', rp⟩ := sr1.alloc_lst hn (reps_reverse e3)
      exact q _ _ g' l sr' (repL_of rp)
/-- int(text), int(number), int(bool) -/
def intS (s : S) (ds : List D) : Option D := match ds with
  | [.str x] => if x.length ≤ 640 then (PySem.intText? (sx x)).map .int else none
  | _ => intD s ds
theorem call_intA : CallR X (.type "int") (fun xs H Q => ((∃ i, xs = [.int i] ∧ Q (.int i) H) ∨ ∃ k, xs = [.bl k] ∧ Q (.int (if k then 1 else 0)) H) ∨ ∃ a n, xs = [.str a] ∧ PySem.intText? a = some n ∧ a.length ≤ 640 ∧ Q (.int n) H) := by
  intro pins s σ H xs us Q I r h
  rcases h with h | h
  · exact call_int1 pins s σ H xs us Q I r h
  · exact call_int_str pins s σ H xs us Q I r h
theorem cd_intS : CalD K (fun xs H Q => ((∃ i, xs = [.int i] ∧ Q (.int i) H) ∨ ∃ k, xs = [.bl k] ∧ Q (.int (if k then 1 else 0)) H) ∨ ∃ a n, xs = [.str a] ∧ PySem.intText? a = some n ∧ a.length ≤ 640 ∧ Q (.int n) H) intS := by
  intro Z s g σ H ds vs d Q sr rp e q
  unfold intS at e
  split at e
  · rename_i x
    split at e
    · rename_i hl
      cases hn : PySem.intText? (sx x) with
      | none => rw [hn] at e; cases e
      | some n =>
        rw [hn] at e
        cases e
        obtain ⟨v, rfl, r⟩ := repLs1 rp
        cases r
        exact .inr ⟨sx x, n, rfl, hn, hl, q _ H g (Gle.refl _) sr rfl⟩
    · cases e
  · exact .inl (cd_int sr rp e q)
/-- repr(bool) -/
def reprBD (_ : S) (ds : List D) : Option D := match ds with | [.bl b] => some (unS (Str.ofString (if b then "True" else "False"))) | _ => none
theorem call_repr_bl : CallR X (.builtin "repr") (fun xs H Q => ∃ b : Bool, xs = [.bl b] ∧ Q (.str (Str.ofString (if b then "True" else "False"))) H) := by
  intro pins s σ H xs us Q I r h
  obtain ⟨b, rfl, q⟩ := h
  cases r with
  | cons r1 rs =>
    cases rs
    cases (show _ = Value.bool b from r1)
    refine PySem.P.repr_of_bool ⟨.str _, H, I.tok _, ⟨s.toks, ?_⟩, q⟩
    cases b <;> rfl
theorem cd_reprB : CalD K (fun xs H Q => ∃ b : Bool, xs = [.bl b] ∧ Q (.str (Str.ofString (if b then "True" else "False"))) H) reprBD := by
  intro Z s g σ H ds vs d Q sr rp e q
  unfold reprBD at e
  split at e
  · cases e
    obtain ⟨v, rfl, r⟩ := repLs1 rp
    cases r
    exact ⟨_, rfl, q _ H g (Gle.refl _) sr (rep_unS _)⟩
  · cases e
/-- in a tuple of lists -/
def rInT (K : PySem.W.Frag) : R2 := fun x y H Q => ∃ d ds, Dp K H x d ∧ Dp K H y (.tuple ds) ∧ SeqAt.shaped d = true ∧ SeqAt.shaped (.tuple ds) = true ∧ Q (.bl (ds.any fun z => PyData.eqv z d)) H
def rNotInT (K : PySem.W.Frag) : R2 := fun x y H Q => ∃ d ds, Dp K H x d ∧ Dp K H y (.tuple ds) ∧ SeqAt.shaped d = true ∧ SeqAt.shaped (.tuple ds) = true ∧ Q (.bl (!ds.any fun z => PyData.eqv z d)) H
theorem room_in_shapedT {ds : List PyData} {A : Around} {d : PyData} (sd : SeqAt.shaped d = true) (hu : A.units + 65 < cLine) : A.units + 1 + min (PyData.depthAll ds) d.depth < cLine := by
  unfold SeqAt.shaped at sd
  simp only [Bool.and_eq_true, decide_eq_true_eq] at sd
  have := sd.2
  omega
theorem op_inT (hu : X.A.units + 65 < cLine) : OpR X (compareOp .In) (rInT X.K) := by
  intro pins s σ H x y v u Q I rx ry h
  obtain ⟨d, ds, hd, he, sd, se, q⟩ := h
  obtain ⟨as, r1⟩ := Dp.reads I d x v hd rx
  obtain ⟨bs, r2⟩ := Dp.reads I (.tuple ds) y u he ry
  exact SeqAt.in_tuple_reads r2 r1 (SeqAt.canLay_of_shaped se) (SeqAt.canLay_of_shaped sd) (room_in_shapedT sd hu) ⟨.bl _, H, I, rfl, q⟩
theorem op_notInT (hu : X.A.units + 65 < cLine) : OpR X (compareOp .NotIn) (rNotInT X.K) := by
  intro pins s σ H x y v u Q I rx ry h
  obtain ⟨d, ds, hd, he, sd, se, q⟩ := h
  obtain ⟨as, r1⟩ := Dp.reads I d x v hd rx
  obtain ⟨bs, r2⟩ := Dp.reads I (.tuple ds) y u he ry
  exact SeqAt.notIn_tuple_reads r2 r1 (SeqAt.canLay_of_shaped se) (SeqAt.canLay_of_shaped sd) (room_in_shapedT sd hu) ⟨.bl _, H, I, rfl, q⟩
def inTD (neg : Bool) (s : S) (a b : D) : Option D := match dd s a, dd s b with
  | some x, some (.tup zs) => if okPy x 58 = true ∧ okPy (.tup zs) 60 = true then some (.bl (if neg then !zs.any (fun y => deq y x) else zs.any fun y => deq y x)) else none
  | _, _ => none
theorem any_toPys (x : D) : ∀ zs : List D, ((toPys zs).any fun z => PyData.eqv z (toPy x)) = zs.any fun y => deq y x
  | [] => rfl
  | z :: zs => by rw [toPys, List.any_cons, List.any_cons, any_toPys x zs]; rfl
theorem inTD_ok {Z : En} {s : S} {g : Gh} {σ : St} {H : Hp} {a b : D} {x y : V} {d : D} {neg : Bool} (sr : SRz K Z s g σ H) (ra : repL K g σ a x) (rb : repL K g σ b y) (e : inTD neg s a b = some d) :
    ∃ c ds, Dp K H x c ∧ Dp K H y (.tuple ds) ∧ SeqAt.shaped c = true ∧ SeqAt.shaped (.tuple ds) = true ∧ d = .bl (if neg then !ds.any (fun z => PyData.eqv z c) else ds.any fun z => PyData.eqv z c) := by
  unfold inTD at e
  split at e
  · rename_i x1 zs h1 h2
    split at e
    · rename_i ok
      cases e
      have k1 := rep_dp (g := ⟨H, g.as⟩) x1 60 x (okPy_mono _ _ _ (by omega) ok.1) (dd_ok sr ra h1)
      have k2 := rep_dp (g := ⟨H, g.as⟩) (.tup zs) 60 y ok.2 (dd_ok sr rb h2)
      refine ⟨toPy x1, toPys zs, k1, k2, okPy_shaped (okPy_mono _ _ _ (by omega) ok.1), okPy_shaped ok.2, ?_⟩
      rw [any_toPys]
    · cases e
  · cases e
theorem od_inT : OpD K (rInT K) (inTD false) := by
  intro Z s g σ H a b x y d Q sr ra rb e q
  obtain ⟨c, ds, h1, h2, h3, h4, rfl⟩ := inTD_ok sr ra rb e
  exact ⟨c, ds, h1, h2, h3, h4, q _ H g (Gle.refl _) sr rfl⟩
theorem od_notInT : OpD K (rNotInT K) (inTD true) := by
  intro Z s g σ H a b x y d Q sr ra rb e q
  obtain ⟨c, ds, h1, h2, h3, h4, rfl⟩ := inTD_ok sr ra rb e
  exact ⟨c, ds, h1, h2, h3, h4, q _ H g (Gle.refl _) sr rfl⟩
/-- a dict of the module -/
def kdM (f : List Nat → Option D) (m : M D) : M D := mb m fun d => mopt fun _ => (toS d).bind f
theorem d_kdGet {D0 : Addr} {x : Str} {i : Expr} {p : Pos} {f : List Nat → Option D} (hg : Gl X x) (hm : X.mg x = some (.ref D0)) (hi : PE X i (tD X.K Z W m))
    (hf : ∀ z d, f z = some d → ∃ v, KDct X.K X.w D0 (sx z) v ∧ ∀ g, rep X.K g d v) (hs : PlainIx i := by intro _ _; rfl) (hd : (x == ("__debug__" : Str)) = false := by decide) :
    PE X (.Subscript (.Name x p) i pos) (tD X.K Z W (kdM f m)) :=
  PE.weak (pe_ix ix_kdict (pe_glob hg hm (show RelV (.ref D0) (.ref D0) from rfl) hd) hi hs) fun σ H Q ⟨s, g, sr, e⟩ => goD isE sr e fun d1 s1 v1 H1 g1 l1 sr1 r1 e1 => by
    obtain ⟨d, hd, q⟩ := mopt_endE isE e1
    cases h : toS d1 with
    | none => rw [h] at hd; cases hd
    | some z =>
      rw [h] at hd
      obtain ⟨v, k1, k2⟩ := hf z d hd
      exact ⟨D0, sx z, v, rfl, toS_ok r1 h, k1, q _ H1 g1 (Gle.refl _) sr1 (repL_of (k2 g1))⟩
/-- text (not) in a dict of the module -/
def kdIn (neg : Bool) (f : List Nat → Bool) (m : M D) : M D := mb m fun d => mopt fun _ => (toS d).map fun z => .bl (if neg then !f z else f z)
theorem d_kdNin {D0 : Addr} {es : Array DictEntry} {n : Nat} {x : Str} {i : Expr} {p : Pos} {f : List Nat → Bool} (KD : KDict X.K X.w D0 es n) (hg : Gl X x) (hm : X.mg x = some (.ref D0)) (hi : PE X i (tD X.K Z W m))
    (hf : ∀ z, ∃ r, PySem.W.nsIn X.K D0 (sx z) = some r ∧ r.isSome = f z) (hs : behindInMarks .NotIn (.Name x p) = false := by with_unfolding_all rfl) (hd : (x == ("__debug__" : Str)) = false := by decide) :
    PE X (.Compare i [.NotIn] [.Name x p] pos) (tD X.K Z W (kdIn true f m)) :=
  PE.weak (pe_cmpR (op_notIn_kd KD) hi (pe_glob hg hm (show RelV (.ref D0) (.ref D0) from rfl) hd) hs) fun σ H Q ⟨s, g, sr, e⟩ => goD isE sr e fun d1 s1 v1 H1 g1 l1 sr1 r1 e1 => by
    obtain ⟨d, hd, q⟩ := mopt_endE isE e1
    cases h : toS d1 with
    | none => rw [h] at hd; cases hd
    | some z =>
      rw [h] at hd
      cases hd
      obtain ⟨r, k1, k2⟩ := hf z
      exact ⟨sx z, r, toS_ok r1 h, rfl, k1, q _ H1 g1 (Gle.refl _) sr1 (by rw [k2]; rfl)⟩
theorem t_kdNin {D0 : Addr} {es : Array DictEntry} {n : Nat} {x : Str} {i : Expr} {p : Pos} {f : List Nat → Bool} (KD : KDict X.K X.w D0 es n) (hg : Gl X x) (hm : X.mg x = some (.ref D0)) (hi : PE X i (tD X.K Z W m))
    (hf : ∀ z, ∃ r, PySem.W.nsIn X.K D0 (sx z) = some r ∧ r.isSome = f z) (hs : behindInMarks .NotIn (.Name x p) = false := by with_unfolding_all rfl) (hd : (x == ("__debug__" : Str)) = false := by decide) :
    PT X (.Compare i [.NotIn] [.Name x p] pos) (tT X.K Z W (tstB (kdIn true f m))) :=
  PT.weak (pt_cmpR (op_notIn_kd KD) hi (pe_glob hg hm (show RelV (.ref D0) (.ref D0) from rfl) hd) hs) fun σ H Q h => tTest_of (m := kdIn true f m) (fun {σ H Q} ⟨s, g, sr, e⟩ => goD isE sr e fun d1 s1 v1 H1 g1 l1 sr1 r1 e1 => by
    obtain ⟨d, hd, q⟩ := mopt_endE isE e1
    cases h : toS d1 with
    | none => rw [h] at hd; cases hd
    | some z =>
      rw [h] at hd
      cases hd
      obtain ⟨r, k1, k2⟩ := hf z
      exact ⟨sx z, r, toS_ok r1 h, rfl, k1, q _ H1 g1 (Gle.refl _) sr1 (by rw [k2]; rfl)⟩) h
mutual
theorem toPy_inj : ∀ (d e : D) (n : Nat), okPy d n = true → okPy e n = true → toPy d = toPy e → d = e
  | .non, e, n, _, h, q => by cases e <;> first | rfl | (cases q; done) | (simp [okPy] at h; done)
  | .bl _, e, n, _, h, q => by cases e <;> first | (cases q; rfl) | (cases q; done) | (simp [okPy] at h; done)
  | .int _, e, n, _, h, q => by cases e <;> first | (cases q; rfl) | (cases q; done) | (simp [okPy] at h; done)
  | .str x, e, n, _, h, q => by
    cases e <;> first
      | (cases q; done)
      | (simp [okPy] at h; done)
      | (rename_i y
         have : sx x = sx y := PyData.str.inj q
         rw [sx_inj this])
  | .lst xs, e, n + 1, h1, h, q => by
    cases e <;> first
      | (cases q; done)
      | (simp [okPy] at h; done)
      | (rename_i ys
         rw [toPys_inj xs ys n (by simpa [okPy] using h1) (by simpa [okPy] using h) (PyData.list.inj q)])
  | .tup xs, e, n + 1, h1, h, q => by
    cases e <;> first
      | (cases q; done)
      | (simp [okPy] at h; done)
      | (rename_i ys
         rw [toPys_inj xs ys n (by simpa [okPy] using h1) (by simpa [okPy] using h) (PyData.tuple.inj q)])
  | .lst _, _, 0, h, _, _ => by simp [okPy] at h
  | .tup _, _, 0, h, _, _ => by simp [okPy] at h
  | .obj _ _, _, _, h, _, _ => by simp [okPy] at h
  | .dct _, _, _, h, _, _ => by simp [okPy] at h
  | .fn _, _, _, h, _, _ => by simp [okPy] at h
  | .ty _, _, _, h, _, _ => by simp [okPy] at h
  | .loc _, _, _, h, _, _ => by simp [okPy] at h
  | .shr _, _, _, h, _, _ => by simp [okPy] at h
  | .scr _, _, _, h, _, _ => by simp [okPy] at h
theorem toPys_inj : ∀ (ds es : List D) (n : Nat), okPys ds n = true → okPys es n = true → toPys ds = toPys es → ds = es
  | [], es, n, _, _, q => by cases es with | nil => rfl | cons => cases q
  | d :: ds, [], n, _, _, q => by cases q
  | d :: ds, e :: es, n, h1, h2, q => by
    simp only [okPys, Bool.and_eq_true] at h1 h2
    have q1 : toPy d = toPy e ∧ toPys ds = toPys es := by
      simp only [toPys, List.cons.injEq] at q
      exact q
    rw [toPy_inj d e n h1.1 h2.1 q1.1, toPys_inj ds es n h1.2 h2.2 q1.2]
end
def mxD (x : D) (xs : List D) : D := xs.foldl (fun a y => if PySem.W.dataLt (toPy a) (toPy y) = true then y else a) x
theorem toPy_mx : ∀ (xs : List D) (x : D), toPy (mxD x xs) = PySem.W.maxD (toPy x) (toPys xs)
  | [], x => rfl
  | y :: ys, x => by
    unfold mxD PySem.W.maxD
    rw [toPys, List.foldl_cons, List.foldl_cons]
    by_cases h : PySem.W.dataLt (toPy x) (toPy y) = true
    · rw [if_pos h, if_pos h]; exact toPy_mx ys y
    · rw [if_neg h, if_neg h]; exact toPy_mx ys x
theorem mx_mem : ∀ (xs : List D) (x : D), mxD x xs ∈ x :: xs
  | [], x => by simp [mxD]
  | y :: ys, x => by
    unfold mxD
    rw [List.foldl_cons]
    split
    · exact List.mem_cons_of_mem _ (mx_mem ys y)
    · rcases List.mem_cons.mp (mx_mem ys x) with h | h
      · exact List.mem_cons.mpr (.inl h)
      · exact List.mem_cons_of_mem _ (List.mem_cons_of_mem _ h)
def alikes (xs : List D) : Bool := xs.all fun y => xs.all (fun z => PySem.W.alike (toPy y) (toPy z)) && (match toPy y with | .none => false | _ => true)
theorem alikes_ok {xs : List D} (h : alikes xs = true) : PySem.W.AlikeAll (toPys xs) := by
  unfold alikes at h
  rw [List.all_eq_true] at h
  rw [toPys_map]
  refine ⟨fun x hx y hy => ?_, fun x hx e => ?_⟩
  · obtain ⟨a, ha, rfl⟩ := List.mem_map.mp hx
    obtain ⟨b, hb, rfl⟩ := List.mem_map.mp hy
    have := h a ha
    rw [Bool.and_eq_true, List.all_eq_true] at this
    exact this.1 b hb
  · obtain ⟨a, ha, q⟩ := List.mem_map.mp hx
    have := h a ha
    rw [Bool.and_eq_true] at this
    rw [q.trans e] at this
    exact absurd this.2 (by simp)
/-- max of a list of data that can be compared -/
def rMaxL (K : PySem.W.Frag) : List V → Hp → VK → Prop := fun xs H Q => ∃ a vs x ds, xs = [.ref a] ∧ SqL K H a vs ∧ DpAll K H vs (x :: ds) ∧ PySem.W.AlikeAll (x :: ds) ∧ PyData.depthAll (x :: ds) ≤ 60 ∧
  ∀ (i : Nat) v d, vs[i]? = some v → (x :: ds)[i]? = some d → d = PySem.W.maxD x ds → Q v H
theorem call_maxL (hc : X.calm = true) (hu : X.A.units + 65 < cLine) : CallR X (.builtin "max") (rMaxL X.K) := by
  intro pins s σ H xs us Q I r h
  obtain ⟨a, vs, x, ds, rfl, hs, hd, ha, hdep, q⟩ := h
  cases r with
  | cons r1 rs =>
    cases rs
    cases r1
    obtain ⟨its, rv, p, hz⟩ := I.list hs
    obtain ⟨as, hr⟩ := Dp.readsAll I (x :: ds) vs its hd rv
    refine PySem.W.max_list_data (I.ok.hd hc) p.isList (xs := ds) (x := x) (as := as) (by simpa using hr) ha (by omega) fun i u h' tk bs hu' hrd hk => ?_
    have hu2 : its[i]? = some u := by simpa using hu'
    have hlen := rv.length
    have hil : i < vs.length := by rw [hlen]; exact (List.getElem?_eq_some_iff.mp hu2).1
    obtain ⟨u', e1, e2⟩ := rv.get (List.getElem?_eq_getElem hil)
    rw [hu2] at e1
    cases e1
    obtain ⟨cs, k1, k2, k3, k4⟩ := PySem.W.readsAll_at hr i u hu2
    have hmx : PySem.W.maxD x ds ∈ x :: ds := by
      have : ∀ (l : List PyData) (y : PyData), PySem.W.maxD y l ∈ y :: l := by
        intro l
        induction l with
        | nil => intro y; simp [PySem.W.maxD]
        | cons z l ih =>
          intro y
          unfold PySem.W.maxD
          rw [List.foldl_cons]
          split
          · exact List.mem_cons_of_mem _ (ih z)
          · rcases List.mem_cons.mp (ih y) with h | h
            · exact List.mem_cons.mpr (.inl h)
            · exact List.mem_cons_of_mem _ (List.mem_cons_of_mem _ h)
      exact this ds x
    have e := PySem.W.alike_unique _ _ u _ _ (ha.1 _ k3 _ hmx) (PySem.W.reads_keeps hk k1) hrd
    refine ⟨vs[i], H, I.kept hk, e2, q i _ _ (List.getElem?_eq_getElem hil) ?_ e⟩
    rw [List.getElem?_eq_getElem k2, List.getD_eq_getElem?_getD, List.getElem?_eq_getElem k2]
    rfl
def maxLD (s : S) (ds : List D) : Option D := match ds with
  | [d] => match rdL s d with
    | some (x :: xs) => if okPys (x :: xs) 58 = true ∧ alikes (x :: xs) = true then some (mxD x xs) else none
    | _ => none
  | _ => none
theorem okPys_get : ∀ {ds : List D} {n i : Nat} {d : D}, okPys ds n = true → ds[i]? = some d → okPy d n = true
  | [], _, _, _, _, e => by simp at e
  | d :: ds, n, 0, x, h, e => by
    simp only [okPys, Bool.and_eq_true] at h
    simp at e; subst e; exact h.1
  | d :: ds, n, i + 1, x, h, e => by
    simp only [okPys, Bool.and_eq_true] at h
    exact okPys_get h.2 (by simpa using e)
theorem okPys_mem {ds : List D} {n : Nat} {d : D} (h : okPys ds n = true) (m : d ∈ ds) : okPy d n = true := by
  obtain ⟨i, hi⟩ := List.mem_iff_getElem?.mp m
  exact okPys_get h hi
theorem cd_maxL : CalD K (rMaxL K) maxLD := by
  intro Z s g σ H ds vs d Q sr rp e q
  unfold maxLD at e
  split at e
  · rename_i d1
    obtain ⟨v, rfl, r1⟩ := repLs1 rp
    split at e
    · rename_i x xs hx
      split at e
      · rename_i ok
        cases e
        obtain ⟨a, us, rfl, e2, e3⟩ := rdL_ok sr r1 hx
        have dp := reps_dp (g := ⟨H, g.as⟩) (x :: xs) 58 us ok.1 (reps_mono ⟨sr.gr.sub, [], by simp⟩ _ _ e3)
        refine ⟨a, us, toPy x, toPys xs, rfl, SqL.of e2, dp, alikes_ok ok.2, Nat.le_trans (okPys_shape (x :: xs) 58 ok.1).2 (by omega), fun i v c hv hc hm => ?_⟩
        have hi : i < (x :: xs).length := by
          rw [← reps_length e3]; exact (List.getElem?_eq_some_iff.mp hv).1
        obtain ⟨w, k1, k2⟩ := reps_get e3 (List.getElem?_eq_getElem hi)
        rw [hv] at k1
        cases k1
        have hc' : c = toPy (x :: xs)[i] := by
          have : (toPys (x :: xs))[i]? = some c := hc
          rw [toPys_map, List.getElem?_map, List.getElem?_eq_getElem hi] at this
          exact (Option.some.inj this).symm
        have hmm : toPy (mxD x xs) = toPy (x :: xs)[i] := by rw [toPy_mx, ← hm, hc']
        have := toPy_inj _ _ 58 (okPys_mem ok.1 (mx_mem xs x)) (okPys_mem ok.1 (List.getElem_mem hi)) hmm
        rw [← this] at k2
        exact q v H g (Gle.refl _) sr k2
      · cases e
    · cases e
  · cases e
end
end DL
end
section -- DP
set_option Elab.async false
set_option linter.all false
set_option maxRecDepth 100000
namespace DL
open PySem PySem.Spec L2

/-! ### a new object joins the store -/
section
variable {K : PySem.W.Frag} {Z0 : En} {g g' : Gh} {H : Hp} {s : S} {σ : St}
theorem OwnU.rep {u : HO} {o : Own} {p : Addr} (r : OwnU K g u o) : OwnRep K g (upd H p u) p o := by
  cases o with
  | lst ds => obtain ⟨vs, rfl, r⟩ := r; exact ⟨vs, upd_same, r⟩
  | dct ds => obtain ⟨vs, rfl, r⟩ := r; exact ⟨vs, upd_same, r⟩
  | obj _ _ => exact r.elim
theorem OwnU.mono {u : HO} {o : Own} (m : Gle g g') (r : OwnU K g u o) : OwnU K g' u o := by
  cases o with
  | lst ds => obtain ⟨vs, e, r⟩ := r; exact ⟨vs, e, reps_mono m _ _ r⟩
  | dct ds => obtain ⟨vs, e, r⟩ := r; exact ⟨vs, e, repK_mono m _ _ r⟩
  | obj _ _ => exact r
theorem SR.free {p : Addr} (sr : SR K Z0 s g σ H) (n : H p = none) : g.G p = none ∧ p ∉ g.as ∧ Z0.H p = none := by
  refine ⟨?_, fun z => ?_, sr.fr.there p n⟩
  · cases q : g.G p with
    | none => rfl
    | some x => have := sr.gr.sub _ _ q; rw [n] at this; cases this
  · obtain ⟨x, hx⟩ := sr.gr.mem z
    rw [n] at hx; cases hx
/-- a new object that no slot holds -/
theorem SR.put {p : Addr} {u : HO} (sr : SR K Z0 s g σ H) (n : H p = none) : SR K Z0 s g σ (upd H p u) := by
  obtain ⟨gn, an, zn⟩ := sr.free n
  have ne : ∀ {a : Addr} {o : Own}, OwnRep K g H a o → a ≠ p := fun {a o} h z => by
    obtain ⟨x, hx⟩ := h.some
    rw [z, n] at hx; cases hx
  refine ⟨sr.gr.put gn an, sr.fr.put zn, sr.dat, fun i o e => ?_, fun i o e => ?_, sr.apart, sr.len, sr.self⟩
  · obtain ⟨a, k1, k2, k3⟩ := sr.own i o e
    exact ⟨a, k1, k2.mono (Gle.refl g) (upd_ne (ne k2)), k3⟩
  · obtain ⟨a, k1, k2, k3⟩ := sr.bor i o e
    exact ⟨a, k1, k2.mono (Gle.refl g) (upd_ne (ne k2)), k3⟩
theorem SR.share {p : Addr} {u : HO} {o : Own} (sr : SR K Z0 s g σ H) (n : H p = none) (r : OwnU K g u o) :
    Gle g ⟨g.G, g.as ++ [p]⟩ ∧ SR K Z0 ⟨s.sl, s.mu ++ [o]⟩ ⟨g.G, g.as ++ [p]⟩ σ (upd H p u) ∧ rep K ⟨g.G, g.as ++ [p]⟩ (.shr s.mu.length) (.ref p) := by
  obtain ⟨gn, an, zn⟩ := sr.free n
  have sp := sr.put (u := u) n
  have le : Gle g ⟨g.G, g.as ++ [p]⟩ := ⟨fun _ _ h => h, [p], rfl⟩
  have np : ∀ {a : Addr} {o : Own}, OwnRep K g H a o → a ≠ p := fun {a o} h z => by
    obtain ⟨x, hx⟩ := h.some
    rw [z, n] at hx; cases hx
  refine ⟨le, ⟨⟨sp.gr.sub, by simp [sr.gr.len], fun k w b q1 q2 => ?_, ?_⟩, ⟨⟨sp.fr.le.1, ?_⟩, sp.fr.keep, sp.fr.there, sp.fr.frz, fun a h => ?_⟩, fun i d e => ?_, fun i w e => ?_, fun i w e => ?_, sr.apart, sr.len, sr.self⟩, p, rfl, ?_⟩
  · have q2 : (g.as ++ [p])[k]? = some b := q2
    by_cases hk : k < s.mu.length
    · rw [List.getElem?_append_left hk] at q1
      rw [List.getElem?_append_left (by rw [← sr.gr.len]; exact hk)] at q2
      obtain ⟨z1, z2⟩ := sp.gr.st k w b q1 q2
      exact ⟨z1.mono le rfl, z2⟩
    · have hl : k = s.mu.length := by
        have := (List.getElem?_eq_some_iff.mp q1).1
        simp at this; omega
      subst hl
      rw [List.getElem?_append_right (Nat.le_refl _)] at q1
      rw [List.getElem?_append_right (by rw [sr.gr.len]; exact Nat.le_refl _)] at q2
      simp at q1
      simp [sr.gr.len] at q2
      subst q1 q2
      exact ⟨(r.mono le).rep, gn⟩
  · exact List.nodup_append.mpr ⟨sr.gr.nd, by simp, fun a ha b hb => by
      simp at hb; subst hb
      exact fun z => an (z ▸ ha)⟩
  · obtain ⟨r0, h0⟩ := sr.fr.le.2
    exact ⟨r0 ++ [p], by show g.as ++ [p] = _; rw [h0, List.append_assoc]⟩
  · have h : a ∈ g.as ++ [p] := h
    rcases List.mem_append.mp h with h | h
    · exact sr.fr.new a h
    · simp at h; subst h; exact .inr zn
  · obtain ⟨v, k1, k2⟩ := sr.dat i d e
    exact ⟨v, k1, rep_mono le _ _ k2⟩
  · obtain ⟨a, k1, k2, k3, k4, k5⟩ := sp.own i w e
    obtain ⟨a', j1, j2, _⟩ := sr.own i w e
    have : a = a' := by rw [k1] at j1; cases j1; rfl
    subst this
    refine ⟨a, k1, k2.mono le rfl, k3, fun z => ?_, k5⟩
    have z : a ∈ g.as ++ [p] := z
    rcases List.mem_append.mp z with z | z
    · exact k4 z
    · simp at z; exact np j2 z
  · obtain ⟨a, k1, k2, k3, k4⟩ := sp.bor i w e
    obtain ⟨a', j1, j2, _⟩ := sr.bor i w e
    have : a = a' := by rw [k1] at j1; cases j1; rfl
    subst this
    refine ⟨a, k1, k2.mono le rfl, fun z => ?_, k4⟩
    have z : a ∈ g.as ++ [p] := z
    rcases List.mem_append.mp z with z | z
    · exact k3 z
    · simp at z; exact np j2 z
  · show (g.as ++ [p])[s.mu.length]? = some p
    rw [sr.gr.len, List.getElem?_append_right (Nat.le_refl _)]
    simp
end

/-! ### a, b = x, y -/
structure Par (X : Cx) (i j : Nat) (x y : Str) (a b : Expr) (px py pt : Pos) (kt k2 : Nat) (pt2 pos : Pos) : Prop where
  hi : X.N[i]? = some x
  hj : X.N[j]? = some y
  hij : i ≠ j
  hx : X.env.scope.names.lookup x = some .local
  hy : X.env.scope.names.lookup y = some .local
  hw : swappedStores [.Tuple [.Name x px, .Name y py] kt pt] (.Tuple [a, b] k2 pt2) X.env = pure (some [x, y])
  hs : swapsWithSole [.Tuple [.Name x px, .Name y py] kt pt] (.Tuple [a, b] k2 pt2) pos.line X.env = pure false
  s1 : starEach [a, b] X.env = (false, eval a X.env) :: starEach [b] X.env
  s2 : starEach [b] X.env = (false, eval b X.env) :: starEach [] X.env
section
variable {X : Cx} {Z : En} {W : WX} {k : Nat} {i j : Nat} {x y : Str} {a b e : Expr} {px py pt pt2 pos : Pos} {kt k2 : Nat} {m1 m2 : M D} {mo mo1 mo2 : M Own} {d : D} {v : V} {K : PySem.W.Frag}
def set2 (s : S) (i j : Nat) (u w : Sl) : S := { s with sl := (s.sl.set i u).set j w }
def parDD (i j : Nat) (m1 m2 : M D) : M Fl := mb m1 fun d => mb m2 fun e => mb (fzs [d, e]) fun xs => fun s => match xs with | [u, w] => .ok .nx (set2 s i j (.dat u) (.dat w)) | _ => .bad
theorem s_parDD (o : Ok X W k) (P : Par X i j x y a b px py pt kt k2 pt2 pos) (ha : PE X a (tD X.K Z W m1)) (hb : PE X b (tD X.K Z W m2)) :
    PS X (.Assign [.Tuple [.Name x px, .Name y py] kt pt] (.Tuple [a, b] k2 pt2) pos) (tS X.K Z W (parDD i j m1 m2)) :=
  PS.weak (ps_par o.calm o.nd P.hi P.hj P.hij P.hx P.hy (pa_cons ha (pa_cons hb pa_nil P.s2) P.s1) P.hw P.hs) fun N σ H ⟨s, g, sr, e⟩ => goD isS sr e fun d1 s1 v1 H1 g1 l1 sr1 r1 e1 => goD isS sr1 e1 fun d2 s2 v2 H2 g2 l2 sr2 r2 e2 => by
    obtain ⟨g3, xs, s3, l3, sr3, r3, e3⟩ := fzs_end isS sr2 (ds := [d1, d2]) (vs := [v1, v2]) ⟨v1, [v2], rfl, repL_mono l2 r1, v2, [], rfl, r2, rfl⟩ e2
    split at e3
    · rename_i u w
      obtain ⟨v, r, ev, h1, h2⟩ := r3
      obtain ⟨v', r', ev', h3, h4⟩ := h2
      cases h4
      cases ev'
      cases ev
      exact ⟨v1, v2, rfl, e3 _ _ g3 (Gle.refl _) ((sr3.set h1).set h3)⟩
    · exact e3.elim
/-- .. fresh, [] -/
def parFE (i j : Nat) (mo : M Own) : M Fl := mb mo fun o => fun s => .ok .nx (set2 s i j (.own o) (.own (.lst [])))
theorem s_parFE {lp : Pos} (o : Ok X W k) (P : Par X i j x y a (.List [] lp) px py pt kt k2 pt2 pos) (ha : PE X a (tF X.K Z W mo)) :
    PS X (.Assign [.Tuple [.Name x px, .Name y py] kt pt] (.Tuple [a, .List [] lp] k2 pt2) pos) (tS X.K Z W (parFE i j mo)) :=
  PS.weak (ps_par o.calm o.nd P.hi P.hj P.hij P.hx P.hy (pa_cons ha (pa_cons (pe_lst pa_nil) pa_nil P.s2) P.s1) P.hw P.hs) fun N σ H ⟨s, g, sr, e⟩ => by
    refine ⟨s, g, sr, ?_⟩
    unfold parFE mb at e
    cases q : mo s with
    | ok o s' =>
      rw [q] at e
      intro p u H' g' le sr' n r
      exact ⟨Nat.zero_le _, fun p2 hp2 => ⟨_, _, rfl, e _ _ g' le ((sr'.setO n r).setO (o := .lst []) (u := .lst []) hp2 ⟨[], rfl, rfl⟩)⟩⟩
    | exc x s' => rw [q] at e; exact e σ
    | bad => rw [q] at e; exact e
/-- .. fresh (for the store), [] -/
def parSE (i j : Nat) (mo : M Own) : M Fl := mb mo fun o => fun s => .ok .nx (set2 ⟨s.sl, s.mu ++ [o]⟩ i j (.dat (.shr s.mu.length)) (.own (.lst [])))
theorem s_parSE {lp : Pos} (o : Ok X W k) (P : Par X i j x y a (.List [] lp) px py pt kt k2 pt2 pos) (ha : PE X a (tF X.K Z W mo)) :
    PS X (.Assign [.Tuple [.Name x px, .Name y py] kt pt] (.Tuple [a, .List [] lp] k2 pt2) pos) (tS X.K Z W (parSE i j mo)) :=
  PS.weak (ps_par o.calm o.nd P.hi P.hj P.hij P.hx P.hy (pa_cons ha (pa_cons (pe_lst pa_nil) pa_nil P.s2) P.s1) P.hw P.hs) fun N σ H ⟨s, g, sr, e⟩ => by
    refine ⟨s, g, sr, ?_⟩
    unfold parSE mb at e
    cases q : mo s with
    | ok o s' =>
      rw [q] at e
      intro p u H' g' le sr' n r
      obtain ⟨l2, sr2, rp⟩ := sr'.share n r
      exact ⟨Nat.zero_le _, fun p2 hp2 => ⟨_, _, rfl, e _ _ _ (le.trans l2) ((sr2.set rp).setO (o := .lst []) (u := .lst []) hp2 ⟨[], rfl, rfl⟩)⟩⟩
    | exc x s' => rw [q] at e; exact e σ
    | bad => rw [q] at e; exact e
/-- .. [], datum -/
def parEC (i j : Nat) (d : D) : M Fl := fun s => .ok .nx (set2 s i j (.own (.lst [])) (.dat d))
theorem s_parEC {lp : Pos} (o : Ok X W k) (P : Par X i j x y (.List [] lp) b px py pt kt k2 pt2 pos) (hb : PE X b (tC v)) (hd : ∀ g, rep X.K g d v) :
    PS X (.Assign [.Tuple [.Name x px, .Name y py] kt pt] (.Tuple [.List [] lp, b] k2 pt2) pos) (tS X.K Z W (parEC i j d)) :=
  PS.weak (ps_par o.calm o.nd P.hi P.hj P.hij P.hx P.hy (pa_cons (pe_lst pa_nil) (pa_cons hb pa_nil P.s2) P.s1) P.hw P.hs) fun N σ H ⟨s, g, sr, e⟩ =>
    ⟨Nat.zero_le _, fun p hp => ⟨_, _, rfl, e _ _ g (Gle.refl _) ((sr.setO (o := .lst []) (u := .lst []) hp ⟨[], rfl, rfl⟩).set (hd g))⟩⟩
/-- .. datum, [] -/
def parDE (i j : Nat) (m : M D) : M Fl := mb m fun d => mb (fz d) fun x => fun s => .ok .nx (set2 s i j (.dat x) (.own (.lst [])))
theorem s_parDE {lp : Pos} (o : Ok X W k) (P : Par X i j x y a (.List [] lp) px py pt kt k2 pt2 pos) (ha : PE X a (tD X.K Z W m1)) :
    PS X (.Assign [.Tuple [.Name x px, .Name y py] kt pt] (.Tuple [a, .List [] lp] k2 pt2) pos) (tS X.K Z W (parDE i j m1)) :=
  PS.weak (ps_par o.calm o.nd P.hi P.hj P.hij P.hx P.hy (pa_cons ha (pa_cons (pe_lst pa_nil) pa_nil P.s2) P.s1) P.hw P.hs) fun N σ H ⟨s, g, sr, e⟩ => goD isS sr e fun d1 s1 v1 H1 g1 l1 sr1 r1 e1 => by
    obtain ⟨g2, d2, s2, l2, sr2, r2, e2⟩ := fz_end isS sr1 r1 e1
    exact ⟨Nat.zero_le _, fun p hp => ⟨_, _, rfl, e2 _ _ g2 (Gle.refl _) ((sr2.set r2).setO (o := .lst []) (u := .lst []) hp ⟨[], rfl, rfl⟩)⟩⟩
end

/-! ### a written dict, new -/
inductive TrOk (K : PySem.W.Frag) : List (TE × TE) → List (Key × M D) → Prop
  | nil : TrOk K [] []
  | cons {tk tv : TE} {ky : Key} {m : M D} {trs : List (TE × TE)} {ps : List (Key × M D)} (hk : ∀ σ H (Q : VK), Q (kV ky) H → tk σ H Q) (hv : ∀ (Z' : En) σ H Q, tD K Z' W0 m σ H Q → tv σ H Q) (r : TrOk K trs ps) : TrOk K ((tk, tv) :: trs) ((ky, m) :: ps)
def dispL (sl : List Sl) : List (Key × M D) → List (Key × D) → List Own → R (List (Key × D))
  | [], acc, mu => .ok acc ⟨sl, mu⟩
  | (ky, m) :: r, acc, mu => match mb m fz ⟨sl, mu⟩ with
    | .ok x s3 => dispL sl r (acc ++ [(ky, x)]) s3.mu
    | _ => .bad
def mergeD (kvs more : List (Key × D)) : List (Key × D) := more.foldl (fun acc kv => putK' acc kv.1 kv.2) kvs
def dispM (ps : List (Key × M D)) : M Own := fun s => match dispL (blkS s.sl []) ps [] s.mu with
  | .ok kvs s' => .ok (.dct (mergeD [] kvs)) ⟨s.sl, s'.mu⟩
  | _ => .bad
theorem dispL_len {sl : List Sl} : ∀ {ps : List (Key × M D)} {acc kvs : List (Key × D)} {mu : List Own} {s' : S}, dispL sl ps acc mu = .ok kvs s' → kvs.length = acc.length + ps.length
  | [], acc, kvs, mu, s', h => by cases h; rfl
  | (ky, m) :: ps, acc, kvs, mu, s', h => by
    unfold dispL at h
    split at h
    · have := dispL_len h
      simp at this ⊢; omega
    · cases h
theorem repK_merge {K : PySem.W.Frag} {g : Gh} : ∀ {ds : List (Key × D)} {vs : List (Key × V)} {es : List (Key × D)} {us : List (Key × V)}, repK K g ds vs → repK K g es us → repK K g (mergeD es ds) (mergeK us vs)
  | [], _, es, us, h, h0 => by cases h; exact h0
  | (n, d) :: ds, vs, es, us, h, h0 => by
    obtain ⟨v, r, rfl, h1, h2⟩ := h
    unfold mergeD mergeK
    rw [List.foldl_cons, List.foldl_cons]
    exact repK_merge h2 (repK_put h1 h0)
theorem repK_snoc {K : PySem.W.Frag} {g : Gh} {ds : List (Key × D)} {vs : List (Key × V)} {ky : Key} {d : D} {v : V} (h : repK K g ds vs) (r : rep K g d v) : repK K g (ds ++ [(ky, d)]) (vs ++ [(ky, v)]) := repK_append r h
section
variable {X : Cx} {Z : En} {W : WX} {pos : Pos} {keys : List (Option Expr)} {values : List Expr} {trs : List (TE × TE)} {ps : List (Key × M D)} {K : PySem.W.Frag} {g g1 : Gh} {σ : St} {H H1 : Hp} {s s1 : S}
theorem disp_go {p : Addr} {Q : List (V × V) → Hp → Prop} (sr : SRz K Z s g σ H) (hp : H p = none) (ok : TrOk K trs ps) : ∀ {acc : List (Key × D)} {mu : List Own} {g2 : Gh} {H2 : Hp} {kvs : List (Key × D)} {s' : S} {us : List (Key × V)},
    Frm g (upd H p (.dK [])) g2 H2 → GR K g2 H2 mu → repK K g2 acc us → dispL (blkS s.sl []) ps acc mu = .ok kvs s' →
    (∀ (g3 : Gh) (H3 : Hp) (vs : List (Key × V)), Frm g (upd H p (.dK [])) g3 H3 → GR K g3 H3 s'.mu → repK K g3 kvs (us ++ vs) → Q (vs.map fun kv => (kV kv.1, kv.2)) H3) → tPairs trs σ H2 Q := by
  induction ok generalizing Q with
  | nil =>
    intro acc mu g2 H2 kvs s' us fr gr r e q
    cases e
    exact q g2 H2 [] fr gr (by rw [List.append_nil]; exact r)
  | @cons tk tv ky m trs ps hk hv ok ih =>
    intro acc mu g2 H2 kvs s' us fr gr r e q
    unfold dispL at e
    refine hk σ H2 _ (hv ⟨g2, H2, none⟩ σ H2 _ ?_)
    have sb : SR K ⟨g2, H2, none⟩ ⟨blkS s.sl [], mu⟩ g2 (wipe σ []) H2 := (sr.put (u := .dK []) hp).block fr gr
    have ew : wipe σ [] = σ := rfl
    rw [ew] at sb
    refine ⟨⟨blkS s.sl [], mu⟩, g2, sb, ?_⟩
    unfold mb at e
    cases hm : m ⟨blkS s.sl [], mu⟩ with
    | bad => rw [hm] at e; cases e
    | exc x s2 => rw [hm] at e; cases e
    | ok d2 s2 =>
      rw [hm] at e
      simp only [R.bind_ok] at e
      intro v H' g' le sr' rp
      cases hz : fz d2 s2 with
      | bad => rw [hz] at e; cases e
      | exc x s3 => exact (fz_noexc hz).elim
      | ok d3 s3 =>
        rw [hz] at e
        obtain ⟨g3, l3, sr3, r3⟩ := fz_ok sr' rp hz
        have f3 : Frm g2 H2 g3 H' := sr3.fr
        refine ih (fr.trans f3) sr3.gr (repK_snoc (repK_mono f3.le _ _ r) r3) e fun g4 H4 vs fr4 gr4 r4 => ?_
        have := q g4 H4 ((ky, v) :: vs) fr4 gr4 (by rw [List.append_assoc] at r4; exact r4)
        exact this
theorem f_disp (h : PPs X pos keys values trs) (ok : TrOk X.K trs ps) (hall : keys.all (·.isSome) = true) (hl : keys.length = values.length) (h0 : keys ≠ []) (h15 : keys.length ≤ 15) (hps : ps.length ≤ 15) : PE X (.Dict keys values pos) (tF X.K Z W (dispM ps)) :=
  PE.weak (pe_disp h hall hl h0 h15) fun σ H Q ⟨s, g, sr, e⟩ => by
    intro p hp
    unfold dispM at e
    cases q : dispL (blkS s.sl []) ps [] s.mu with
    | bad => rw [q] at e; exact e.elim
    | exc x s' => rw [q] at e; exact e.elim
    | ok kvs s' =>
      rw [q] at e
      obtain ⟨gn, an, zn⟩ := sr.free hp
      refine disp_go sr hp ok (Frm.refl (sr.gr.put gn an).sub) (sr.gr.put gn an) (show repK X.K g [] [] from rfl) q fun g3 H3 vs fr gr r => ?_
      have hk := fr.keep p (.dK []) upd_same an
      refine ⟨hk, vs, rfl, ?_, ?_⟩
      · have e1 := dispL_len q
        have e2 := repK_length r
        simp at e1 e2
        omega
      · have gD : g3.G p = none := by
          cases z : g3.G p with
          | none => rfl
          | some x =>
            rcases fr.frz p (by rw [z]; simp) with y | y
            · exact absurd gn y
            · rw [upd_same] at y; cases y
        have aD : p ∉ g3.as := fun z => by
          rcases fr.new p z with y | y
          · exact an y
          · rw [upd_same] at y; cases y
        have fr' : Frm g H g3 (dropH H3 p) := by
          have f0 := fr
          refine ⟨fr.le, fun b o e1 e2 => ?_, fun b e => ?_, fun b e => ?_, fun b e => ?_⟩
          · have nb : b ≠ p := fun z => by rw [z, hp] at e1; cases e1
            rw [dropH_ne nb]
            exact fr.keep b o (by rw [upd_ne nb]; exact e1) e2
          · by_cases z : b = p
            · subst z; exact hp
            · rw [dropH_ne z] at e
              have := fr.there b e
              rwa [upd_ne z] at this
          · rcases fr.frz b e with y | y
            · exact .inl y
            · by_cases z : b = p
              · subst z; exact .inr hp
              · rw [upd_ne z] at y; exact .inr y
          · rcases fr.new b e with y | y
            · exact .inl y
            · by_cases z : b = p
              · subst z; exact .inr hp
              · rw [upd_ne z] at y; exact .inr y
        have fin := e p (.dK (mergeK [] vs)) (dropH H3 p) g3 fr.le (sr.behind fr' (gr.drop gD aD)) dropH_same ⟨_, rfl, repK_merge r rfl⟩
        have eu : upd (dropH H3 p) p (.dK (mergeK [] vs)) = upd H3 p (.dK (mergeK [] vs)) := by
          funext b
          by_cases z : b = p
          · subst z; rw [upd_same, upd_same]
          · rw [upd_ne z, upd_ne z, dropH_ne z]
        rw [eu] at fin
        exact fin
end

/-! ### defs that give a new object -/
inductive RG where
  | ok (o : Own) (mu : List Own) | exc (x : Ex) (mu : List Own) | bad
abbrev FG := List D → List Own → RG
def spO (K : PySem.W.Frag) (n : Nat) (F : FG) : Sp := fun vs H Q E => vs.length = n ∧ ∃ g ds mu, GR K g H mu ∧ reps K g ds vs ∧ match F ds mu with
  | .ok o mu' => ∀ p u H' g', Frm g H g' H' → GR K g' H' mu' → H' p = none → OwnU K g' u o → Q (.ref p) (upd H' p u)
  | .exc x mu' => ∀ cls dd H' g', Frm g H g' H' → GR K g' H' mu' → xrep K g' H' x cls dd → E cls dd H'
  | .bad => False
def callG (F : FG) (ds : List D) : M Own := fun s => match F ds s.mu with
  | .ok o mu => .ok o { s with mu := mu }
  | .exc x mu => .exc x { s with mu := mu }
  | .bad => .bad
def callO (n : Nat) (F : FG) (dds : List D) (ma : M (List D)) : M Own := mb ma fun ds => mb (fzs ds) fun xs => mb (lenM n (xs ++ dds)) fun ys => callG F ys
section
variable {X : Cx} {Z : En} {W : WX} {k : Nat} {f : Addr} {fd : FuncData} {ps : List Str} {x : Str} {p pos : Pos} {e : Expr} {es : List Expr} {ma : M (List D)} {F : FG} {n : Nat} {ds : List Value} {dvs : List V} {dds : List D}
theorem f_call (o : Ok X W k) (G : FnOk X.prog X.w X.K X.mg X.base (L2.CX X.prog X.w) k f fd ps (spO X.K n F)) (hg : Gl X x) (hm : X.mg x = some (.ref f)) (hk : PySem.W.keepIn X.K (.ref f) = true) (hb : Binds X.K fd ps ds) (hd : Vals dvs ds) (hdd : ∀ g, reps X.K g dds dvs)
    (ha : PA X (e :: es) (tA X.K Z W ma)) (hdb : (x == ("__debug__" : Str)) = false := by decide) (he : starEach (e :: es) X.env = (false, eval e X.env) :: starEach es X.env := by rfl) (hpl : (backTo pos (starEach es X.env)).any (·.1) = false := by rfl) :
    PE X (.Call (.Name x p) (e :: es) [] pos) (tF X.K Z W (callO n F dds ma)) :=
  PE.weak (pe_callSD G o.room hg hm hk hb hd (fun σ => passAt o.tk σ) ha hdb he hpl) fun σ H Q ⟨s, g, sr, q⟩ => goA isF sr q fun ds s1 vs H1 g1 l1 sr1 r1 e1 => by
    obtain ⟨g2, xs, s2, l2, sr2, r2, e2⟩ := fzs_end isF sr1 r1 e1
    obtain ⟨hn, e3⟩ := lenM_end isF e2
    have r3 := reps_append r2 (hdd g2)
    refine ⟨by rw [reps_length r3]; exact hn, g2, _, s2.mu, sr2.gr, r3, ?_⟩
    unfold callG at e3
    cases q : F (xs ++ dds) s2.mu with
    | ok d mu' =>
      rw [q] at e3
      intro p u H' g' fr gr hp ow
      exact e3 p u H' g' fr.le (sr2.behind fr gr) hp ow
    | exc y mu' =>
      rw [q] at e3
      exact fun cls dd H' g' fr gr xr => e3 cls dd H' g' fr.le (sr2.behind fr gr) xr
    | bad => rw [q] at e3; exact e3
end
def runO (n : Nat) (m : M Own) : FG := fun ds mu => match m ⟨begS n ds, mu⟩ with
  | .ok o s => .ok o s.mu
  | .exc x s => .exc x s.mu
  | .bad => .bad
section
variable {P : Program} {w : World} {K : PySem.W.Frag} {mg : Str → Option Value} {base : Heap}
theorem fnO {x qual : Str} {st : Stmt} {f : Addr} {fd : FuncData} {N ps : List Str} {k : Nat} {n : Nat} {m : M Own} {e : Expr} {pos : Pos} (Fn : Fun K x qual st f fd) (Sc : FnScope N ps (defScope st)) (hn : ps.length = n) (hN : n ≤ N.length) (hbd : defBody st = [.Return (some e) pos])
    (hbody : ∀ (cdv : Value) (A : Around) (outer : List Env) (s : Shared) (H : Hp) (E : XK) (Z : En), Ok (cxOf (L2.CX P w) P w K mg base N qual (defScope st) f cdv A outer s H E) (fun cls d _ H => E cls d H) k →
      PE (cxOf (L2.CX P w) P w K mg base N qual (defScope st) f cdv A outer s H E) e (tF K Z (fun cls d _ H => E cls d H) m)) : FnOk P w K mg base (L2.CX P w) (k + 1) f fd ps (spO K n (runO N.length m)) := by
  subst hn
  refine Fn.okX Sc (fun vs H Q E h => h.1) fun cdv A outer s H vs Q E hr h => ?_
  obtain ⟨hl, g, ds, mu, gr, r, h⟩ := h
  have hds : ds.length = ps.length := by rw [← reps_length r]; exact hl
  have tk : Takes (cxOf (L2.CX P w) P w K mg base N qual (defScope st) f cdv A outer s H E) (fun cls d _ H => E cls d H) := takes_of rfl rfl rfl rfl
  have ok : Ok (cxOf (L2.CX P w) P w K mg base N qual (defScope st) f cdv A outer s H E) (fun cls d _ H => E cls d H) k := ⟨rfl, Sc.nd, hr, tk, passes_of rfl⟩
  rw [hbd]
  refine ⟨_, pss_one (ps_ret (hbody cdv A outer s H E ⟨g, H, none⟩ ok)), ⟨begS N.length ds, mu⟩, g, SR.entry gr r (by omega), ?_⟩
  unfold runO at h
  cases q : m ⟨begS N.length ds, mu⟩ with
  | bad => rw [q] at h; exact h
  | exc y s1 =>
    rw [q] at h
    exact fun cls dd H' g' le sr xr => h cls dd H' g' sr.fr sr.gr xr
  | ok o s1 =>
    rw [q] at h
    exact fun p u H' g' le sr hp ow => h p u H' g' sr.fr sr.gr hp ow
end
end DL
end
section -- DQ
set_option Elab.async false
set_option linter.all false
set_option maxRecDepth 100000
namespace DL
open PySem PySem.Spec L2
open Sem (wp)

/-! ### enumerate of a tuple -/
set_option maxHeartbeats 1000000 in
theorem enum_new1 {v : Value} {o : Obj} {H : Heap → Prop} (B : Begins v o H) :
    Meets (Builtin.«enumerate.__new__» ⟨[.type "enumerate", v], []⟩) (fun _ R s => H s.heap ∧
      R (.ok (.ret (.ref (s.heap.push o).objs.size))) { s with heap := (s.heap.push o).push { cls := .type "enumerate", data := .fields #[.none, .bool false, .ref s.heap.objs.size, rawInt 0, .none, .none] } }) :=
  .of_wp fun prog w A R s h => by
    obtain ⟨hp, g, d, tk, os⟩ := s; obtain ⟨h1, h⟩ := h
    have hsub := sub_enumerate
    have q1 : ∀ {A' : Around} {E : Value → Shared → Prop} {Q : Value → Shared → Prop}, Q (.ref hp.objs.size) ⟨hp.push o, g, d, tk, os⟩ → wpAny (model prog w) A' (pyIter v) Q E ⟨hp, g, d, tk, os⟩ :=
      fun q => B.iter prog w _ _ ⟨hp, g, d, tk, os⟩ _ h1 q
    wp_walk using q1
    refine wpAny_stack_any fun st => wpAny_pure ?_
    split
    · rename_i c _ _ _ _ _
      cases (c == Value.type "enumerate")
      · wp_walk using q1
        exact ⟨_, rfl, h⟩
      · wp_walk using q1
        exact ⟨_, rfl, h⟩
    · wp_walk using q1
      exact ⟨_, rfl, h⟩
theorem enum_made {prog : Program} {w : World} {A : Around} {E : Value → Shared → Prop} {s : Shared} {v : Value} {o : Obj} {H : Heap → Prop} {Q : Value → Shared → Prop} (B : Begins v o H) (h1 : H s.heap)
    (h : ∀ h', IsEnum h' (s.heap.objs.size + 1) s.heap.objs.size 0 .none → h'.get? s.heap.objs.size = some o → h'.objs.size = s.heap.objs.size + 2 →
      (∀ b o, s.heap.get? b = some o → h'.get? b = some o) → Q (.ref (s.heap.objs.size + 1)) { s with heap := h' }) :
    wpAny (model prog w) A (call (.type "enumerate") [v]) Q E s := by
  refine callType_new F.called_enumerate (by decide) (F.typeCall_enumerate_1 _) (F.newCall_enumerate_1 _) (fun obj => F.args_object_init_2 obj _) F.entry_enumerate_new
    (enum_new1 B) ⟨h1, ?_⟩
  have hz : (s.heap.push o).objs.size = s.heap.objs.size + 1 := Heap.size_push ..
  show _ ∧ _
  rw [hz]
  have he : IsEnum ((s.heap.push o).push { cls := .type "enumerate", data := .fields #[.none, .bool false, .ref s.heap.objs.size, rawInt 0, .none, .none] }) (s.heap.objs.size + 1) s.heap.objs.size 0 .none := by
    have := Heap.get?_push_size (s.heap.push o) (o := { cls := .type "enumerate", data := .fields #[.none, .bool false, .ref s.heap.objs.size, rawInt 0, .none, .none] }) rfl
    rw [hz] at this; exact this
  refine ⟨⟨_, he, rfl⟩, h _ he (Heap.get?_push_of_some _ (Heap.get?_push_size _ B.free)) (by rw [Heap.size_push, hz]) fun b o x => Heap.get?_push_of_some _ (Heap.get?_push_of_some _ x)⟩
theorem wpAny_next_endT {prog : Program} {w : World} {A : Around} {E : Value → Shared → Prop} {s : Shared} {e it l : Addr} {i : Nat} {items : Array Value} {old : Value} {Q : Option Value → Shared → Prop} (hh : A.handled = none)
    (he : IsEnum s.heap e it i old) (hit : s.heap.IsTupleIter it l i) (hl : s.heap.IsTuple l items) (hx : items[i]? = none)
    (hQ : ∀ h', Heap.ExtBut it s.heap h' → Q none { s with heap := h' }) : wpAny (model prog w) A (pyNext (.ref e)) Q E s := by
  have hT : s.TypeIs (.ref e) "enumerate" := ⟨_, he, rfl⟩
  unfold pyNext
  refine wpAny_bind (wpAny_attempt (wpAny_callSpecial?_slot (name := Str.ofString "__next__") hT F.slot_enumerate_next
    (wpAny_call_entry F.slot_enumerate_next hT F.entry_enumerate_next ?_ (F.args_enumerate_next_1 _))))
  show wpAny _ _ (field (.ref e) 2 >>= _) _ _ _
  refine wpAny_bind (wpAny_field he rfl (x := .ref it) rfl ?_)
  refine wpAny_bind (wpAny_nextOf_tuple_end hh hit hl hx fun h' x he' hx' => ?_)
  obtain ⟨o, ho, hc⟩ := hx'
  refine wpAny_bind (wpAny_isInstance (T := "StopIteration") (b := true) ⟨o, ho, hc⟩ isSubtype_stop ?_)
  exact wpAny_pure (hQ _ he')
def IteT (K : PySem.W.Frag) (a : Addr) : It :=
  ⟨fun i H => ∃ (xs : List V) (x : V), SqT K H a xs ∧ xs[i]? = some x, fun i H v H' => ∃ T x, v = .ref T ∧ H T = none ∧ H' = upd H T (.tup [.int (i : Nat), x]) ∧ ∀ xs, SqT K H a xs → xs[i]? = some x, fun i H => ∃ xs : List V, SqT K H a xs ∧ xs.length ≤ i⟩
theorem turn_enumT {P : Program} {w : World} {K : PySem.W.Frag} {elts : List Expr} {kk : Nat} {tpos : Pos} (a e it : Addr) (hat : a ≠ it) (hae : a ≠ e) :
    Turn P w K (.Tuple elts kk tpos) (IteT K a) [e, it] e (fun i h => (∃ old, IsEnum h e it ((i : Nat) : Int) old) ∧ h.IsTupleIter it a i ∧ e ≠ it) where
  mem := by simp
  obj := fun i h st b hb => by
    obtain ⟨⟨old, he⟩, ⟨o, ho, hc, hd⟩, _⟩ := st
    have e' : b = e ∨ b = it := by simpa using hb
    rcases e' with z | z
    · rw [z]; exact ⟨_, he, fun v q => nomatch q⟩
    · rw [z]; exact ⟨o, ho, fun v q => by rw [hd] at q; cases q⟩
  keep := fun i h h' st k => let ⟨⟨old, he⟩, hi, hne⟩ := st; ⟨⟨old, k e (by simp) _ he⟩, hi.at fun o q => k it (by simp) o q, hne⟩
  item := by
    intro X hP hw hK hc i pins s σ H E I hf st hg
    subst hP hw hK
    obtain ⟨⟨old, he⟩, hit, hne⟩ := st
    obtain ⟨xs, x, hq, hx⟩ := hg
    obtain ⟨its, rv, p, hz⟩ := I.tuple hq
    obtain ⟨u, hu, ru⟩ := rv.get hx
    have hel : e < s.heap.objs.size := Heap.lt_size he
    have hil : it < s.heap.objs.size := by obtain ⟨_, q, _⟩ := hit; exact Heap.lt_size q
    have hi : i < its.toArray.size := by
      have := (List.getElem?_eq_some_iff.mp hu).1
      simpa using this
    have D := Draws.tuple (prog := X.prog) (w := X.w) (A := X.A.in1) (by exact I.ok.hd hc) it a hat its.toArray
    refine wpAny_pyNext_enum_itemD D he ⟨hit, show s.heap.IsTuple a its.toArray from p⟩ hi hne (fun z => by simp at z; rcases z with z | z; exact hne z; exact hae z.symm) fun x' h' tk hx' ho hst' hT hsz hk => ?_
    have ex : x' = u := by
      have hx' : its.toArray[i]? = some x' := hx'
      have hu' : its.toArray[i]? = some u := by simpa using hu
      rw [hu'] at hx'
      exact (Option.some.inj hx').symm
    subst ex
    refine ⟨_, rfl, wpAny_letOwnedTupleGo_enum (s := { s with heap := h', toks := tk + 1 }) ho fun h'' he' sb => ?_⟩
    have hT2 : h''.get? s.heap.objs.size = some { cls := .type "tuple", data := .seq #[.int i tk, x'] } := (sb.2 _ (Nat.ne_of_gt hel)).trans hT
    have new : ObjOk X.prog X.w (upd H s.heap.objs.size (.tup [.int (i : Nat), x])) h'' s.heap.objs.size (.tup [.int (i : Nat), x]) :=
      ⟨by show 2 ≤ sizeLine; decide, [.int i tk, x'], .cons ⟨_, rfl⟩ (.cons ru .nil), ⟨_, hT2, rfl, _, rfl⟩⟩
    have I1 : Inv X pins σ (upd H s.heap.objs.size (.tup [.int (i : Nat), x])) { s with heap := h'', toks := tk + 1 } :=
      I.turnedNew (ch := [e, it]) (fun b ob hb q => (sb.2 b (fun z => hb (by simp [z]))).trans (hk b ob (fun z => hb (by simp [z])) (fun z => hb (by simp [z])) q)) hf (Nat.le_refl _) new
    refine ⟨.ref s.heap.objs.size, _, I1, rfl, ⟨_, x, rfl, I.hok.fresh (Nat.le_refl _), rfl, fun ys hy => by rw [I.tuple_inj hy hq]; exact hx⟩, ⟨⟨x', ?_⟩, hst'.1.at fun o q => (sb.2 it (Ne.symm hne)).trans q, hne⟩, fun b hb => ?_⟩
    · have e1 : ((i + 1 : Nat) : Int) = (i : Int) + 1 := by omega
      rw [e1]; exact he'
    · have hb' : b < s.heap.objs.size := by
        have e' : b = e ∨ b = it := by simpa using hb
        rcases e' with z | z
        · rw [z]; exact hel
        · rw [z]; exact hil
      rw [upd_ne (Nat.ne_of_lt hb')]
      exact (hf b hb).1
  done := by
    intro X hP hw hK hc i pins s σ H E I hf st hg
    subst hP hw hK
    obtain ⟨⟨old, he⟩, hit, hne⟩ := st
    obtain ⟨xs, hq, hx⟩ := hg
    obtain ⟨its, rv, p, hz⟩ := I.tuple hq
    obtain ⟨f0, f1, f2, f3, f4, f5⟩ := hf it (by simp)
    have hl := rv.length
    have hT : s.TypeIs (.ref e) "enumerate" := ⟨_, he, rfl⟩
    have hit0 := hit
    refine wpAny_next_endT (I.ok.hd hc) he hit (show s.heap.IsTuple a its.toArray from p) (by simp; omega) fun h' eb => ⟨rfl, I.turned (t' := s.toks) (fun b o hb q => eb b o hb q) f0 f1 f3 f4 f5⟩
  self := fun A i s Q E st h => let ⟨⟨_, he⟩, _⟩ := st; wpAny_pyIter_enum he h
def iEnumT (K : PySem.W.Frag) (ta : TA) : TI := fun σ H R => ta σ H fun vs H1 => ∃ a xs, vs = [.ref a] ∧ SqT K H1 a xs ∧ R (IteT K a) H1
theorem pi_enumT {X : Cx} {e : Expr} {ta : TA} {p pos tpos : Pos} {elts : List Expr} {kk : Nat} (hg : Gl X "enumerate") (hm : X.mg "enumerate" = none) (ha : PA X [e] ta) (hs : starEach [e] X.env = [(false, eval e X.env)] := by rfl) :
    PI X (.Tuple elts kk tpos) (.Call (.Name "enumerate" p) [e] [] pos) (iEnumT X.K ta) := by
  refine ⟨fun pins s σ H R I h => ?_⟩
  refine PyProof.Rows.Call_ (ld_blt I hg hm PyProof.Rows.boot_enumerate (PyProof.Rows.callWith_type1 (thn (ha.run pos pins s σ H _ I h) fun us s1 ⟨vs, H1, I1, r1, q1⟩ => ?_) hs rfl))
  obtain ⟨a, xs, ex, hq, q⟩ := q1
  subst ex
  cases r1 with
  | cons r rr =>
    cases rr
    cases r
    obtain ⟨its, rv, p', hz⟩ := I1.tuple hq
    have ht : s1.heap.IsTuple a its.toArray := p'
    have hal : a < s1.heap.objs.size := by obtain ⟨_, q, _⟩ := ht; exact Heap.lt_size q
    refine enum_made (begins_tuple a its.toArray) ht fun h' he hit hsz hk => wpAny_pyIter_enum he ?_
    have I2 : Inv X pins σ H1 { s1 with heap := h' } := I1.kept (t' := s1.toks) hk
    refine ⟨s1.heap.objs.size + 1, [s1.heap.objs.size + 1, s1.heap.objs.size], _, _, H1, rfl, I2, turn_enumT a (s1.heap.objs.size + 1) s1.heap.objs.size (Nat.ne_of_lt hal) (Nat.ne_of_lt (Nat.lt_succ_of_lt hal)), ⟨⟨.none, he⟩, ⟨_, hit, rfl, rfl⟩, Nat.succ_ne_self _⟩, fun b hb => ?_, q⟩
    have e' : b = s1.heap.objs.size + 1 ∨ b = s1.heap.objs.size := by simpa using hb
    have hle : s1.heap.objs.size ≤ b := by
      rcases e' with z | z
      · rw [z]; exact Nat.le_add_right _ _
      · rw [z]; exact Nat.le_refl _
    exact I1.fpOk hle (I1.hok.fresh hle)
section
variable {K : PySem.W.Frag} {X : Cx} {Z : En} {W : WX} {g g' : Gh} {σ : St} {H : Hp} {s : S} {tg iter e : Expr} {es : List Expr} {m : M D} {ma : M (List D)} {pos p : Pos}
theorem dw_enumT {a : Addr} {vs : List V} {ds : List D} (e : SqT K g.G a vs) (r : reps K g ds vs) : DW K g (IteT K a) (enumL 0 ds) := by
  refine ⟨fun i g1 H l sm hi => ?_, fun g1 H l sm => ?_, fun {Z s g1 σ H i d x H'} l sr hd y => ?_⟩
  · have hi' : i < vs.length := by rw [reps_length r, ← enumL_length ds 0]; exact hi
    exact ⟨vs, vs[i], SqT.mono (l.1.trans sm) e, List.getElem?_eq_getElem hi'⟩
  · exact ⟨vs, SqT.mono (l.1.trans sm) e, by rw [reps_length r, enumL_length]; exact Nat.le_refl _⟩
  · obtain ⟨d', h1, rfl⟩ := enumL_get ds 0 i d hd
    obtain ⟨T, x', e1, e2, e3, e4⟩ := y
    obtain ⟨v, k1, k2⟩ := reps_get r h1
    rw [e4 vs (SqT.mono (l.1.trans sr.gr.sub) e)] at k1
    cases k1
    subst e1 e3
    exact pair_rep sr e2 (by rw [Nat.zero_add]; rfl) (rep_mono l _ _ k2)
def enumTM (ma : M (List D)) : M (List D) := mb ma fun ds => mb (fzs ds) fun xs => mopt fun _ => match xs with | [.tup ys] => some (enumL 0 ys) | _ => none
theorem i_enumT {elts : List Expr} {kk : Nat} {tpos : Pos} (hg : Gl X "enumerate") (hm : X.mg "enumerate" = none) (ha : PA X [e] (tA X.K Z W ma)) (hs : starEach [e] X.env = [(false, eval e X.env)] := by rfl) : PI X (.Tuple elts kk tpos) (.Call (.Name "enumerate" p) [e] [] pos) (tI X.K Z W (enumTM ma)) :=
  PI.weak (pi_enumT hg hm ha hs) fun σ H R' ⟨s, g, sr, e⟩ => goA isI sr e fun ds s1 vs H1 g1 l1 sr1 r1 e1 => by
    obtain ⟨g2, ds2, s2, l2, sr2, r2, e2⟩ := fzs_end isI sr1 r1 e1
    obtain ⟨xs, hx, q⟩ := mopt_endE isI e2
    split at hx
    · cases hx
      obtain ⟨v, w, rfl, ⟨a, us, rfl, k1, k2⟩, h2⟩ := r2
      cases h2
      exact ⟨a, us, rfl, SqT.mono sr2.gr.sub k1, q _ H1 g2 (Gle.refl _) sr2 (dw_enumT k1 k2)⟩
    · cases hx
/-- enumerate of a list or a tuple -/
def enumA (ma : M (List D)) : M (List D) := mb ma fun ds => mb (fzs ds) fun xs => mopt fun _ => match xs with | [.lst ys] => some (enumL 0 ys) | [.tup ys] => some (enumL 0 ys) | _ => none
theorem i_enumA {elts : List Expr} {kk : Nat} {tpos : Pos} (hg : Gl X "enumerate") (hm : X.mg "enumerate" = none) (ha : PA X [e] (tA X.K Z W ma)) (hs : starEach [e] X.env = [(false, eval e X.env)] := by rfl) : PI X (.Tuple elts kk tpos) (.Call (.Name "enumerate" p) [e] [] pos) (tI X.K Z W (enumA ma)) :=
  PI.weak (PI.or (i_enum hg hm ha hs) (i_enumT hg hm ha hs)) fun σ H R' ⟨s, g, sr, e⟩ => by
    have key : enumA ma s = enumM ma s ∨ enumA ma s = enumTM ma s := by
      unfold enumA enumM enumTM mb
      cases ma s with
      | bad => exact .inl rfl
      | exc x s1 => exact .inl rfl
      | ok ds s1 =>
        simp only [R.bind_ok]
        cases fzs ds s1 with
        | bad => exact .inl rfl
        | exc x s2 => exact .inl rfl
        | ok xs s2 =>
          simp only [R.bind_ok]
          match xs with
          | [] => exact .inl rfl
          | [x] => cases x <;> first | exact .inl rfl | exact .inr rfl
          | x :: y :: r => exact .inl (by cases x <;> rfl)
    rcases key with h | h
    · rw [h] at e; exact .inl ⟨s, g, sr, e⟩
    · rw [h] at e; exact .inr ⟨s, g, sr, e⟩
end
end DL
end
section -- DR
set_option Elab.async false
set_option linter.all false
set_option maxRecDepth 100000
namespace DL
open PySem PySem.Spec L2

/-! ### operations by the kinds of their values, whatever they are -/
section
variable {K : PySem.W.Frag}
abbrev fAddI : S → D → D → Option D := iiD fun i j => some (.int (i + j))
abbrev fSubI : S → D → D → Option D := iiD fun i j => some (.int (i - j))
def mulC (i j : Int) : Bool := (decide (-(2 ^ 64) < i) && decide (i < 2 ^ 64)) || (decide (-(2 ^ 64) < j) && decide (j < 2 ^ 64))
theorem mulC_ok (i j : Int) (h : mulC i j = true) : CMul i j := by
  simp only [mulC, Bool.or_eq_true, Bool.and_eq_true, decide_eq_true_eq] at h
  exact h
abbrev fMulI : S → D → D → Option D := iiD fun i j => if mulC i j = true then some (.int (i * j)) else none
def divC (_ j : Int) : Bool := decide (0 < j) && decide (j < 1073741824)
theorem divC_ok (i j : Int) (h : divC i j = true) : CDiv i j := by
  simp only [divC, Bool.and_eq_true, decide_eq_true_eq] at h
  exact h
abbrev fDivI : S → D → D → Option D := iiD fun i j => if divC i j = true then some (.int (i / j)) else none
def modC (_ j : Int) : Bool := decide (0 < j)
theorem modC_ok (i j : Int) (h : modC i j = true) : 0 < j := by simpa [modC] using h
abbrev fModI : S → D → D → Option D := iiD fun i j => if modC i j = true then some (.int (i % j)) else none
abbrev fPowI : S → D → D → Option D := iiD fun i j => if powC i j = true then some (.int (i ^ j.toNat)) else none
abbrev fLt : S → D → D → Option D := iiD fun i j => some (.bl (decide (i < j)))
abbrev fLe : S → D → D → Option D := iiD fun i j => some (.bl (decide (i ≤ j)))
abbrev fGt : S → D → D → Option D := iiD fun i j => some (.bl (decide (j < i)))
abbrev fGe : S → D → D → Option D := iiD fun i j => some (.bl (decide (j ≤ i)))
theorem od_addI : OpD K (rI0 fun i j => .int (i + j)) fAddI := @od_int K _ (fun i j => D.int (i + j)) fun _ _ _ => rfl
theorem od_subI : OpD K (rI0 fun i j => .int (i - j)) fSubI := @od_int K _ (fun i j => D.int (i - j)) fun _ _ _ => rfl
theorem od_mulI : OpD K (rI CMul fun i j => .int (i * j)) fMulI := @od_intC K _ _ (fun i j => D.int (i * j)) _ mulC_ok fun _ _ _ => rfl
theorem od_divI : OpD K (rI CDiv fun i j => .int (i / j)) fDivI := @od_intC K _ _ (fun i j => D.int (i / j)) _ divC_ok fun _ _ _ => rfl
theorem od_modI : OpD K (rI (fun _ j => 0 < j) fun i j => .int (i % j)) fModI := @od_intC K _ _ (fun i j => D.int (i % j)) _ modC_ok fun _ _ _ => rfl
theorem od_powI : OpD K (rI CPow fun i j => .int (i ^ j.toNat)) fPowI := @od_intC K _ _ (fun i j => D.int (i ^ j.toNat)) _ powC_ok fun _ _ _ => rfl
theorem od_lt : OpD K (rI0 fun i j => .bl (decide (i < j))) fLt := @od_int K _ (fun i j => D.bl (decide (i < j))) fun _ _ _ => rfl
theorem od_le : OpD K (rI0 fun i j => .bl (decide (i ≤ j))) fLe := @od_int K _ (fun i j => D.bl (decide (i ≤ j))) fun _ _ _ => rfl
theorem od_gt : OpD K (rI0 fun i j => .bl (decide (j < i))) fGt := @od_int K _ (fun i j => D.bl (decide (j < i))) fun _ _ _ => rfl
theorem od_ge : OpD K (rI0 fun i j => .bl (decide (j ≤ i))) fGe := @od_int K _ (fun i j => D.bl (decide (j ≤ i))) fun _ _ _ => rfl
/-- + of numbers, texts, lists, tuples -/
def addA (s : S) (a b : D) : Option D := match a with
  | .int _ => fAddI s a b
  | .str _ => strAdd s a b
  | .tup _ => tupAdd s a b
  | _ => lstAdd s a b
def rAddA (K : PySem.W.Frag) : R2 := fun x y H Q => ((rI0 (fun i j => .int (i + j)) x y H Q) ∨ (∃ i j, x = .str i ∧ y = .str j ∧ i.length + j.length ≤ sizeLine ∧ Q (.str (i ++ j)) H)) ∨ (rCat x y H Q ∨ rCatT K x y H Q)
theorem op_addA {X : Cx} : OpR X (binaryOp .Add) (rAddA X.K) := OpR.or (OpR.or op_add op_add_str) (OpR.or op_cat op_catT)
theorem od_addA : OpD K (rAddA K) addA := by
  intro Z s g σ H a b x y d Q sr ra rb e q
  unfold addA at e
  split at e
  · exact .inl (.inl (od_addI sr ra rb e q))
  · exact .inl (.inr (od_strAdd sr ra rb e q))
  · exact .inr (.inr (od_tupAdd sr ra rb e q))
  · exact .inr (.inl (od_lstAdd sr ra rb e q))
/-- * of numbers, of a text and a number -/
def mulA (s : S) (a b : D) : Option D := match a with
  | .str _ => strMulD s a b
  | _ => fMulI s a b
def rMulA : R2 := fun x y H Q => rI CMul (fun i j => .int (i * j)) x y H Q ∨ rStrMul x y H Q
theorem op_mulA {X : Cx} : OpR X (binaryOp .Mult) rMulA := OpR.or op_mul op_strMul
theorem od_mulA : OpD K rMulA mulA := by
  intro Z s g σ H a b x y d Q sr ra rb e q
  unfold mulA at e
  split at e
  · exact .inr (od_strMul sr ra rb e q)
  · exact .inl (od_mulI sr ra rb e q)
/-- list(x): a list, a tuple, a text -/
def listA (s : S) (ds : List D) : Option Own := match ds with
  | [.str x] => if x.length ≤ sizeLine then some (.lst (x.map fun c => .str [c])) else none
  | ds => listD s ds
def rListA (K : PySem.W.Frag) : List V → Hp → VK → Prop := fun xs H Q => (∃ p ys, xs = [.ref p] ∧ (SqL K H p ys ∨ SqT K H p ys) ∧ ∀ l, H l = none → Q (.ref l) (upd H l (.lst ys))) ∨
  ∃ z : Str, xs = [.str z] ∧ z.cps.size ≤ sizeLine ∧ ∀ l, H l = none → Q (.ref l) (upd H l (.lst (z.cps.toList.map fun c => V.str ⟨#[c]⟩)))
theorem call_listA {X : Cx} (hc : X.calm = true) : CallR X (.type "list") (rListA X.K) := by
  intro pins s σ H xs us Q I r h
  rcases h with h | ⟨z, rfl, hz, q⟩
  · exact call_list_of pins s σ H xs us Q I r h
  · obtain ⟨u, rfl, t, rfl⟩ := vals1 r
    refine PySem.call_list_str (I.ok.hd hc) z t (hn := hz) fun h' tk acc c' hk e hi => ?_
    refine ⟨.ref s.heap.objs.size, upd H s.heap.objs.size (.lst (z.cps.toList.map fun c => V.str ⟨#[c]⟩)), I.laid hk (Nat.le_refl _) ⟨by rw [List.length_map, Array.length_toList]; exact hz, acc.toList, c', ?_, by rw [Array.toArray_toList]; exact e⟩, rfl, q _ (I.hok.fresh (Nat.le_refl _))⟩
    refine vals_of_idx _ _ (by rw [List.length_map, Array.length_toList, Array.length_toList]; exact hi.1) fun j u hj => ?_
    obtain ⟨c, t', hc, rfl⟩ := hi.2 j u (by rw [← Array.getElem?_toList]; exact hj)
    exact ⟨.str ⟨#[c]⟩, by simp [hc], ⟨_, rfl⟩⟩
theorem reps_signs {g : Gh} : ∀ x : List Nat, reps K g (x.map fun c => D.str [c]) (x.map fun c => V.str ⟨#[c]⟩)
  | [] => rfl
  | c :: x => ⟨_, _, rfl, rfl, reps_signs x⟩
theorem cf_listA : CalF K (rListA K) listA := by
  intro Z s g σ H ds vs o Q sr rp e q
  unfold listA at e
  split at e
  · rename_i x
    split at e
    · rename_i hl
      cases e
      obtain ⟨v, rfl, r⟩ := repLs1 rp
      cases r
      exact .inr ⟨sx x, rfl, by simpa [sx] using hl, fun l hl => q l _ g (Gle.refl _) sr hl ⟨_, rfl, reps_signs x⟩⟩
    · cases e
  · exact .inl (cf_list sr rp e q)
/-- max, min: of two numbers, of a list -/
def maxA (s : S) (ds : List D) : Option D := match ds with
  | [_] => maxLD s ds
  | _ => int2 (fun i j => some (.int (if j > i then j else i))) s ds
def rMaxA (K : PySem.W.Frag) : List V → Hp → VK → Prop := fun xs H Q => (∃ i j, xs = [.int i, .int j] ∧ Q (.int (if j > i then j else i)) H) ∨ rMaxL K xs H Q
theorem call_maxA {X : Cx} (hc : X.calm = true) (hu : X.A.units + 65 < cLine) : CallR X (.builtin "max") (rMaxA X.K) := by
  intro pins s σ H xs us Q I r h
  rcases h with h | h
  · exact call_max2 hc pins s σ H xs us Q I r h
  · exact call_maxL hc hu pins s σ H xs us Q I r h
theorem cd_maxA : CalD K (rMaxA K) maxA := by
  intro Z s g σ H ds vs d Q sr rp e q
  unfold maxA at e
  split at e
  · exact .inr (cd_maxL sr rp e q)
  · exact .inl (cd_max2 sr rp e q)
abbrev absD : S → List D → Option D := int1 fun i => some (.int (if i < 0 then -i else i))
abbrev min2D : S → List D → Option D := int2 fun i j => some (.int (if j < i then j else i))
abbrev strID : S → List D → Option D := int1 fun i => if i.natAbs.log2 < 1920 then some (.str (Str.ofString (toString i)).cps.toList) else none
end

/-! ### a list, a tuple or a text is walked -/
def anyI (m : M D) : M (List D) := mb m fun d => mb (fz d) fun x => mopt fun _ => match x with | .lst xs => some xs | .tup xs => some xs | .str x => some (x.map fun c => .str [c]) | _ => none
section
variable {K : PySem.W.Frag} {X : Cx} {Z : En} {W : WX} {g g' : Gh} {σ : St} {H : Hp} {s : S} {tg iter e : Expr} {m : M D} {pos p : Pos}
theorem dw_str (x : List Nat) : DW K g (Its (sx x)) (x.map fun c => D.str [c]) :=
  dw_fn x.length (by simp) (fun i H hi => by show i < x.toArray.size; simpa using hi) (fun H => by show x.toArray.size ≤ x.length; simp) fun i H y H' hi h => ⟨h.1, fun d hd g => by
    obtain ⟨_, c, hc, rfl⟩ := h
    have hc' : x[i]? = some c := by simpa [sx] using hc
    simp [hc'] at hd
    subst hd
    rfl⟩
theorem i_any (he : PE X e (tD X.K Z W m)) : PI X tg e (tI X.K Z W (anyI m)) := ⟨fun pins s σ H R' I ⟨s0, g0, sr, q⟩ => by
  refine thn (he.run pins s σ H (fun v1 H1 => ((∃ a, v1 = .ref a ∧ (∃ xs, SqL X.K H1 a xs) ∧ R' (Itl X.K a) H1) ∨ (∃ a, v1 = .ref a ∧ (∃ xs, SqT X.K H1 a xs) ∧ R' (Itt X.K a) H1)) ∨ ∃ x, v1 = .str x ∧ R' (Its x) H1) I (goD isI sr q fun d1 s1 v1 H1 g1 l1 sr1 r1 e1 => ?_)) fun v s1 ⟨x, H1, I1, r1, q1⟩ => ?_
  · obtain ⟨g2, d2, s2, l2, sr2, r2, e2⟩ := fz_end isI sr1 r1 e1
    obtain ⟨ds, hd, q⟩ := mopt_endE isI e2
    cases d2 with
    | lst xs =>
      cases hd
      obtain ⟨a, vs, rfl, e3, e4⟩ := r2
      exact .inl (.inl ⟨a, rfl, ⟨vs, SqL.of (sr2.gr.sub _ _ e3)⟩, q _ H1 g2 (Gle.refl _) sr2 (dw_list e3 e4)⟩)
    | tup xs =>
      cases hd
      obtain ⟨a, vs, rfl, e3, e4⟩ := r2
      exact .inl (.inr ⟨a, rfl, ⟨vs, SqT.mono sr2.gr.sub e3⟩, q _ H1 g2 (Gle.refl _) sr2 (dw_tup e3 e4)⟩)
    | str x =>
      cases hd
      cases r2
      exact .inr ⟨sx x, rfl, q _ H1 g2 (Gle.refl _) sr2 (dw_str x)⟩
    | _ => cases hd
  rcases q1 with (⟨a, e, ⟨xs, hq⟩, q⟩ | ⟨a, e, ⟨xs, hq⟩, q⟩) | ⟨z, e, q⟩
  · subst e
    cases r1
    obtain ⟨its, rv, p, hz⟩ := I1.list hq
    refine wpAny_pyIter_list p.isList ?_
    refine ⟨s1.heap.objs.size, [s1.heap.objs.size], _, _, H1, rfl, I1.kept (t' := s1.toks) fun b o e => Heap.get?_push_of_some _ e, turn_list a _, ⟨_, Heap.get?_push_size _ rfl, rfl, rfl⟩, fun b hb => ?_, q⟩
    have e : b = s1.heap.objs.size := by simpa using hb
    subst e
    exact I1.fpOk (Nat.le_refl _) (I1.hok.fresh (Nat.le_refl _))
  · subst e
    cases r1
    obtain ⟨its, rv, p, hz⟩ := I1.tuple hq
    refine wpAny_pyIter_tuple (show s1.heap.IsTuple a its.toArray from p) ?_
    refine ⟨s1.heap.objs.size, [s1.heap.objs.size], _, _, H1, rfl, I1.kept (t' := s1.toks) fun b o e => Heap.get?_push_of_some _ e, turn_tuple a _, ⟨_, Heap.get?_push_size _ rfl, rfl, rfl⟩, fun b hb => ?_, q⟩
    have e : b = s1.heap.objs.size := by simpa using hb
    subst e
    exact I1.fpOk (Nat.le_refl _) (I1.hok.fresh (Nat.le_refl _))
  · subst e
    obtain ⟨t, rfl⟩ := r1
    cases ha : z.cps.all (· < 128)
    · exact wpAny_pyIter_wide ha (pi_one (tk := s1.toks) I1 _ (turn_str _ z t "str_iterator" (.inr rfl)) ⟨_, Heap.get?_push_size _ rfl, rfl, rfl⟩ q)
    · exact wpAny_pyIter_ascii ha (pi_one (tk := s1.toks) I1 _ (turn_str _ z t "str_ascii_iterator" (.inl rfl)) ⟨_, Heap.get?_push_size _ rfl, rfl, rfl⟩ q)⟩
theorem d_gint {x : Str} {i : Int} {pos : Pos} (hg : Gl X x) (hm : ∃ t, X.mg x = some (.int i t)) (hd : (x == ("__debug__" : Str)) = false := by decide) : PE X (.Name x pos) (tD X.K Z W (mret (.int i))) := by
  obtain ⟨t, hm⟩ := hm
  exact d_glob hg hm (show RelV (.int i) (.int i t) from ⟨t, rfl⟩) (fun _ _ => rfl) hd
theorem d_gstr {x z : Str} {pos : Pos} (hg : Gl X x) (hm : ∃ t, X.mg x = some (.str z t)) (hd : (x == ("__debug__" : Str)) = false := by decide) : PE X (.Name x pos) (tD X.K Z W (mret (.str (cs z)))) := by
  obtain ⟨t, hm⟩ := hm
  exact d_glob hg hm (show RelV (.str z) (.str z t) from ⟨t, rfl⟩) (fun _ _ => rfl) hd
end
end DL
end
section -- DS
set_option Elab.async false
set_option linter.all false
set_option maxRecDepth 100000
namespace DL
open PySem PySem.Spec L2

theorem Ok.low {X : Cx} {W : WX} {k j : Nat} (o : Ok X W k) (h : j ≤ k) : Ok X W j := ⟨o.calm, o.nd, o.room.mono h, o.tk, o.po⟩
/-- in: a text in a text, an item in a list, a list in a tuple -/
def inA (neg : Bool) (s : S) (a b : D) : Option D := match inD neg s a b with | some d => some d | none => inTD neg s a b
def rInA (K : PySem.W.Frag) : R2 := fun x y H Q => rInS K false x y H Q ∨ rInT K x y H Q
def rNotInA (K : PySem.W.Frag) : R2 := fun x y H Q => rInS K true x y H Q ∨ rNotInT K x y H Q
section
variable {X : Cx} {K : PySem.W.Frag}
theorem op_inA (hu : X.A.units + 65 < cLine) : OpR X (compareOp .In) (rInA X.K) := OpR.or (op_inS hu) (op_inT hu)
theorem op_ninA (hu : X.A.units + 65 < cLine) : OpR X (compareOp .NotIn) (rNotInA X.K) := OpR.or (op_ninS hu) (op_notInT hu)
theorem od_inA : OpD K (rInA K) (inA false) := @OpD.or K _ _ _ _ (@od_in K false) (@od_inT K)
theorem od_ninA : OpD K (rNotInA K) (inA true) := @OpD.or K _ _ _ _ (@od_in K true) (@od_notInT K)
end
structure Par3 (X : Cx) (i j l : Nat) (x y z : Str) (a b c : Expr) (px py pz pt : Pos) (kt k2 : Nat) (pt2 pos : Pos) : Prop where
  hi : X.N[i]? = some x
  hj : X.N[j]? = some y
  hl : X.N[l]? = some z
  hij : i ≠ j
  hil : i ≠ l
  hjl : j ≠ l
  hx : X.env.scope.names.lookup x = some .local
  hy : X.env.scope.names.lookup y = some .local
  hz : X.env.scope.names.lookup z = some .local
  hw : swappedStores [.Tuple [.Name x px, .Name y py, .Name z pz] kt pt] (.Tuple [a, b, c] k2 pt2) X.env = pure (some [x, y, z])
  hs : swapsWithSole [.Tuple [.Name x px, .Name y py, .Name z pz] kt pt] (.Tuple [a, b, c] k2 pt2) pos.line X.env = pure false
  s1 : starEach [a, b, c] X.env = (false, eval a X.env) :: starEach [b, c] X.env
  s2 : starEach [b, c] X.env = (false, eval b X.env) :: starEach [c] X.env
  s3 : starEach [c] X.env = (false, eval c X.env) :: starEach [] X.env
section
variable {X : Cx} {Z : En} {W : WX} {k : Nat} {i j l : Nat} {x y z : Str} {a b c e : Expr} {px py pz pt pt2 pos : Pos} {kt k2 : Nat} {m1 m2 m3 : M D}
def parD3 (i j l : Nat) (m1 m2 m3 : M D) : M Fl := mb m1 fun d => mb m2 fun e => mb m3 fun f => mb (fzs [d, e, f]) fun xs => fun s => match xs with | [u, v, w] => .ok .nx { s with sl := ((s.sl.set i (.dat u)).set j (.dat v)).set l (.dat w) } | _ => .bad
theorem s_parD3 (o : Ok X W k) (P : Par3 X i j l x y z a b c px py pz pt kt k2 pt2 pos) (ha : PE X a (tD X.K Z W m1)) (hb : PE X b (tD X.K Z W m2)) (hc : PE X c (tD X.K Z W m3)) :
    PS X (.Assign [.Tuple [.Name x px, .Name y py, .Name z pz] kt pt] (.Tuple [a, b, c] k2 pt2) pos) (tS X.K Z W (parD3 i j l m1 m2 m3)) :=
  PS.weak (ps_par3 o.calm o.nd P.hi P.hj P.hl P.hij P.hil P.hjl P.hx P.hy P.hz (pa_cons ha (pa_cons hb (pa_cons hc pa_nil P.s3) P.s2) P.s1) P.hw P.hs) fun N σ H ⟨s, g, sr, e⟩ =>
    goD isS sr e fun d1 s1 v1 H1 g1 l1 sr1 r1 e1 => goD isS sr1 e1 fun d2 s2 v2 H2 g2 l2 sr2 r2 e2 => goD isS sr2 e2 fun d3 s3 v3 H3 g3 l3 sr3 r3 e3 => by
    obtain ⟨g4, xs, s4, l4, sr4, r4, e4⟩ := fzs_end isS sr3 (ds := [d1, d2, d3]) (vs := [v1, v2, v3]) ⟨v1, [v2, v3], rfl, repL_mono (l2.trans l3) r1, v2, [v3], rfl, repL_mono l3 r2, v3, [], rfl, r3, rfl⟩ e3
    split at e4
    · rename_i u v w
      obtain ⟨_, _, ev, h1, h2⟩ := r4
      obtain ⟨_, _, ev2, h3, h4⟩ := h2
      obtain ⟨_, _, ev3, h5, h6⟩ := h4
      cases h6
      cases ev3
      cases ev2
      cases ev
      exact ⟨v1, v2, v3, rfl, e4 _ _ g4 (Gle.refl _) (((sr4.set h1).set h3).set h5)⟩
    · exact e4.elim
end
end DL
end
section -- DU
set_option Elab.async false
set_option linter.all false
set_option maxRecDepth 100000
namespace DL
open PySem PySem.Spec L2

/-! ### what the head tells -/
abbrev AlU : Type := He.AlT × Bool
def obU (n : Nat) (fa : List He.Fa) (fn : List He.DefD) (ts : List He.Tab) (ex : PySem.W.Frag → Bool) (g : Addr → Option Obj) : AlU := (He.obsTG n fa fn ts g, ex (He.frG g (He.asD g n)))
def hookU (n : Nat) (fa : List He.Fa) (fn : List He.DefD) (ts : List He.Tab) (ex : PySem.W.Frag → Bool) : PySem.W.Hook where
  α := AlU
  obs := fun s => obU n fa fn ts ex s.heap.get?
  val := fun w => (He.valT fn ts w, true)
  says := fun w h => ∃ K : PySem.W.Frag, K.In h ∧ He.SaysT fa fn ts w K ∧ ex K = true
  of := fun _ _ e => ⟨_, He.frG_in, congrArg (fun z : AlU => z.1) e, congrArg (fun z : AlU => z.2) e⟩
  keeps := fun _ _ _ ⟨K, hK, c⟩ k => ⟨K, PySem.W.Frag.In.keeps hK k, c⟩
theorem obU_eq {n : Nat} {fa : List He.Fa} {fn : List He.DefD} {ts : List He.Tab} {ex : PySem.W.Frag → Bool} {g : Addr → Option Obj} {s : Shared} (h : ∀ a, g a = s.heap.get? a) : obU n fa fn ts ex g = (hookU n fa fn ts ex).obs s := by
  have e : g = s.heap.get? := funext h
  rw [e] <;> rfl
theorem dflV_none {K : PySem.W.Frag} {dV : Value} (h : DflV K dV []) : dV = .none := by
  rcases h with ⟨_, h⟩ | ⟨h, _⟩
  · first | exact h | assumption
  · exact absurd rfl h
theorem fun_of {K : PySem.W.Frag} {x q : Str} {st : Stmt} {f : Addr} {fd : FuncData} (F : FunD K x q (defArgs st) (defBody st) (defScope st) [] [] f fd) : Fun K x q st f fd := by
  obtain ⟨oc, od, dV, kV, doc, pm, an, cdv, ct, osl, h1, h2, h3, h4, h5⟩ := F.ex
  have e := dflV_none h4
  subst e
  exact ⟨⟨oc, od, kV, doc, pm, an, cdv, ct, osl, h1, h2, h3⟩, F.kp⟩
/-- what a walk knows of the program's text -/
structure TxG (fa : List He.Fa) (fn : List He.DefD) (ts : List He.Tab) (ex : PySem.W.Frag → Bool) (w : World) (K : PySem.W.Frag) (mg : Str → Option Value) : Prop where
  at_ : ∃ h : Heap, K.In h ∧ h.Ns mainGlobals mg
  says : He.SaysT fa fn ts w K
  vals : ex K = true
section
variable {fa : List He.Fa} {fnl : List He.DefD} {ts : List He.Tab} {ex : PySem.W.Frag → Bool} {w : World} {K : PySem.W.Frag} {mg : Str → Option Value}
theorem TxG.glo (T : TxG fa fnl ts ex w K mg) (i : Nat) {x : Str} (h : fa[i]? = some (.glo x)) : mg x = some (.ref (He.ga K x)) := by
  obtain ⟨hp, X, G⟩ := T.at_
  exact He.glo_ok X G (T.says.d.fact i h)
theorem TxG.free (T : TxG fa fnl ts ex w K mg) (i : Nat) {x : Str} (h : fa[i]? = some (.free x)) : mg x = none := by
  obtain ⟨hp, X, G⟩ := T.at_
  exact He.free_ok X G (T.says.d.fact i h)
theorem TxG.int (T : TxG fa fnl ts ex w K mg) (i : Nat) {x : Str} {n : Int} (h : fa[i]? = some (.int x n)) : ∃ t, mg x = some (.int n t) := by
  obtain ⟨hp, X, G⟩ := T.at_
  exact He.int_ok X G (T.says.d.fact i h)
theorem TxG.str (T : TxG fa fnl ts ex w K mg) (i : Nat) {x z : Str} (h : fa[i]? = some (.str x z)) : ∃ t, mg x = some (.str z t) := by
  obtain ⟨hp, X, G⟩ := T.at_
  exact He.str_ok X G (T.says.d.fact i h)
theorem TxG.cls (T : TxG fa fnl ts ex w K mg) (i : Nat) {x : Str} (h : fa[i]? = some (.cls x)) : Cls K (He.ga K x) := He.cls_ok (T.says.d.fact i h)
theorem TxG.noat (T : TxG fa fnl ts ex w K mg) (i : Nat) {x f : Str} (h : fa[i]? = some (.noat x f)) : NoAttr K (He.ga K x) f := He.noat_ok (T.says.d.fact i h)
theorem TxG.meth (T : TxG fa fnl ts ex w K mg) (i : Nat) {x m : Str} (h : fa[i]? = some (.meth x m)) : Meth K (He.ga K x) m (He.ma K (He.ga K x) m) := He.meth_ok (T.says.d.fact i h)
theorem TxG.mkr (T : TxG fa fnl ts ex w K mg) (i : Nat) {x : Str} (h : fa[i]? = some (.mkr x)) : Mk K (He.ga K x) (He.ma K (He.ga K x) "__init__") := He.mkr_ok (T.says.d.fact i h)
theorem TxG.fn (T : TxG fa fnl ts ex w K mg) (i : Nat) {at_ : Str × Option Str} {n q : Str} {st : Stmt} (h : fnl[i]? = some ⟨at_, n, q, defArgs st, defBody st, defScope st, [], []⟩) : ∃ fd, Fun K n q st (He.fAd K at_) fd := by
  obtain ⟨fd, F⟩ := T.says.d.def_ i h
  exact ⟨fd, fun_of F⟩
theorem TxG.tab (T : TxG fa fnl ts ex w K mg) (i : Nat) {t : He.Tab} (h : ts[i]? = some t) : He.dicW K (t.1 K) = some (He.keysIn w.params t.2) := by
  have e : ts.map (fun t => He.dicW K (t.1 K)) = ts.map fun t => some (He.keysIn w.params t.2) := congrArg (fun z : He.AlT => z.2) T.says
  have e2 : (ts.map fun t => He.dicW K (t.1 K))[i]? = (ts.map fun t => some (He.keysIn w.params t.2))[i]? := by rw [e]
  rw [List.getElem?_map, List.getElem?_map, h] at e2
  exact Option.some.inj e2
theorem TxG.kd (T : TxG fa fnl ts ex w K mg) (i : Nat) {t : He.Tab} (h : ts[i]? = some t) : ∃ es n, KDict K w (t.1 K) es n := He.dicW_ok (T.tab i h)
end
/-- look-ups in a table of texts -/
def tabHas (ks : List Str) (z : List Nat) : Bool := ks.any fun k => decide (k = sx z)
def tabGet (kvs : List (Str × Str)) (z : List Nat) : Option D := (kvs.find? fun p => decide (p.1 = sx z)).map fun p => .str (cs p.2)
theorem keys_find {P : Params} {x : Str} : ∀ {l : List DictEntry} {ks : List Str}, l.map He.keyOf = He.keysIn P ks → (l.any (·.refKey)) = false ∧ ((l.find? (·.key.isStr x)).isSome = ks.any fun k => decide (k = x))
  | [], [], _ => ⟨rfl, rfl⟩
  | [], _ :: _, h => by cases h
  | _ :: _, [], h => by cases h
  | e :: l, k :: ks, h => by
    have h' : He.keyOf e :: l.map He.keyOf = some (k, PyData.keyHash P k) :: He.keysIn P ks := h
    injection h' with h1 h2
    obtain ⟨i1, i2⟩ := keys_find (x := x) h2
    unfold He.keyOf at h1
    split at h1
    · rename_i y t hk
      obtain ⟨h3, h4⟩ := Prod.mk.inj (Option.some.inj h1)
      subst h3
      refine ⟨?_, ?_⟩
      · rw [List.any_cons, i1, Bool.or_false]
        unfold DictEntry.refKey
        rw [hk]
        all_goals rfl
      · rw [List.find?_cons, List.any_cons, hk]
        have e1 : (Value.str y t).isStr x = decide (y = x) := by
          show (y == x) = _
          by_cases h : y = x
          · subst h; simp
          · simp [h]
        rw [e1]
        cases q : decide (y = x) with
        | true => rfl
        | false => rw [Bool.false_or]; exact i2
    · cases h1
theorem tab_has {K : PySem.W.Frag} {a : Addr} {P : Params} {ks : List Str} (h : He.dicW K a = some (He.keysIn P ks)) (z : List Nat) : ∃ r, PySem.W.nsIn K a (sx z) = some r ∧ r.isSome = tabHas ks z := by
  unfold He.dicW at h
  split at h
  · rename_i c es n sl q
    split at h
    · obtain ⟨i1, i2⟩ := keys_find (x := sx z) (Option.some.inj h)
      unfold PySem.W.nsIn
      rw [q]
      simp only
      cases f : es.toList.find? (·.key.isStr (sx z)) with
      | none =>
        rw [f] at i2
        refine ⟨none, ?_, ?_⟩
        · simp only [i1]; rfl
        · rw [← (show _ = tabHas ks z from i2)]; rfl
      | some e =>
        rw [f] at i2
        exact ⟨some e.val, rfl, by rw [← (show _ = tabHas ks z from i2)]; rfl⟩
    · cases h
  · cases h
theorem tab_get {K : PySem.W.Frag} {w : World} {a : Addr} {es : Array DictEntry} {n : Nat} {kvs : List (Str × Str)} (kd : KDict K w a es n) (h : He.valsB K a (kvs.map fun p => (p.1, He.Dv.str p.2)) = true) (z : List Nat) (d : D) (e : tabGet kvs z = some d) :
    ∃ v, KDct K w a (sx z) v ∧ ∀ g, rep K g d v := by
  unfold tabGet at e
  cases q : kvs.find? fun p => decide (p.1 = sx z) with
  | none => rw [q] at e; cases e
  | some p =>
    rw [q] at e
    cases e
    have hm := List.mem_of_find?_eq_some q
    have hp := List.find?_some q
    have hk : p.1 = sx z := of_decide_eq_true hp
    obtain ⟨u, h1, h2⟩ := He.valsB_ok h (q := (p.1, He.Dv.str p.2)) (List.mem_map.mpr ⟨p, hm, rfl⟩)
    refine ⟨.str p.2, ⟨es, n, u, kd.at_, kd.lit, by rw [← hk]; exact h1, h2⟩, fun g => rfl⟩
section
variable {X : Cx} {Z : En} {W : WX} {k : Nat} {f : Addr} {fd : FuncData} {ps : List Str} {x : Str} {p pos : Pos} {F : FD} {n : Nat} {ds : List Value} {dvs : List V} {dds : List D}
theorem d_call0 (o : Ok X W k) (G : FnOk X.prog X.w X.K X.mg X.base (L2.CX X.prog X.w) k f fd ps (spF X.K n F)) (hg : Gl X x) (hm : X.mg x = some (.ref f)) (hk : PySem.W.keepIn X.K (.ref f) = true) (hb : Binds X.K fd ps ds) (hd : Vals dvs ds) (hdd : ∀ g, reps X.K g dds dvs)
    (hdb : (x == ("__debug__" : Str)) = false := by decide) : PE X (.Call (.Name x p) [] [] pos) (tD X.K Z W (callN n F dds aNil)) := by
  refine ⟨fun pins s σ H Q I ⟨s0, g, sr, q⟩ => ?_⟩
  refine wpAny_Call_Name_kw (ld_glob I hg hm ?_ hdb)
  refine PySem.W.callWith_K0 I.kIn hk (run_fnSD (us := []) (vs := []) (E := fun σ cls dd H' => W cls dd σ H') G o.room hb hd (passAt o.tk σ) I .nil ?_)
  have q : EEnd X.K Z W g σ Q ((fzs [] s0).bind fun xs => mb (lenM n (xs ++ dds)) fun ys => callR F ys) := q
  obtain ⟨g2, xs, s2, l2, sr2, r2, e2⟩ := fzs_end isE sr (ds := []) (vs := []) rfl q
  obtain ⟨hn, e3⟩ := lenM_end isE e2
  exact call_end hn sr2 (reps_append r2 (hdd g2)) e3
end
/-- for displays: a judgement at every entry -/
theorem PE.ex {X : Cx} {e : Expr} {m : M D} (h : ∀ Z, PE X e (tD X.K Z W0 m)) : PE X e (fun σ H Q => ∃ Z, tD X.K Z W0 m σ H Q) := ⟨fun pins s σ H Q I ⟨Z, q⟩ => (h Z).run pins s σ H Q I q⟩
end DL
end
section -- DV
set_option Elab.async false
set_option linter.all false
set_option maxRecDepth 100000
namespace DL
open PySem PySem.Spec L2

/-! ### running denotations by simp -/
theorem bind_ext {α β : Type} {r : R α} {f g : α → S → R β} (h : ∀ a s, f a s = g a s) : r.bind f = r.bind g := by
  have e : f = g := funext fun a => funext fun s => h a s
  subst e
  rfl
section
variable {α β : Type} {s : S} {sl : List Sl} {mu : List Own}
@[simp] theorem x_mb (m : M α) (f : α → M β) (s : S) : mb m f s = (m s).bind f := rfl
@[simp] theorem x_mret (a : α) (s : S) : mret a s = .ok a s := rfl
def mo (o : Option α) (s : S) : R α := match o with | some a => .ok a s | none => .bad
@[simp] theorem mo_some (a : α) (s : S) : mo (some a) s = .ok a s := rfl
@[simp] theorem mo_none (s : S) : mo (none : Option α) s = .bad := rfl
@[simp] theorem x_mopt (o : S → Option α) (s : S) : mopt o s = mo (o s) s := rfl
@[simp] theorem x_vr (i : Nat) (s : S) : vr i s = match s.sl[i]? with | some (.dat d) => .ok d s | some (.own _) => .ok (.loc i) s | some (.bor _) => .ok (.loc i) s | _ => .bad := rfl
@[simp] theorem x_binD (f : S → D → D → Option D) (m1 m2 : M D) (s : S) : binD f m1 m2 s = (m1 s).bind fun a s => (m2 s).bind fun b s => mo (f s a b) s := rfl
@[simp] theorem x_tstB (m : M D) (s : S) : tstB m s = (m s).bind fun d s => mo (toB d) s := rfl
@[simp] theorem x_toB (b : Bool) : toB (.bl b) = some b := rfl
@[simp] theorem x_tstD (m : M D) (s : S) : tstD m s = (m s).bind fun d s => mo (truthD s d) s := rfl
@[simp] theorem x_truth_bl (b : Bool) : truthD s (.bl b) = some b := rfl
@[simp] theorem x_andT (a b : M Bool) (s : S) : andT a b s = (a s).bind fun c => if c = true then b else mret false := rfl
@[simp] theorem x_orT (a b : M Bool) (s : S) : orT a b s = (a s).bind fun c => if c = true then mret true else b := rfl
@[simp] theorem x_notT (a : M Bool) (s : S) : notT a s = (a s).bind fun c => mret (!c) := rfl
@[simp] theorem x_andV (a b : M D) (s : S) : andV a b s = (a s).bind fun x s => match toB x with | some c => (if c = true then b else mret (.bl false)) s | none => .bad := by
  show (a s).bind _ = _
  refine bind_ext fun x s => ?_
  show (mopt (fun _ => toB x) s).bind _ = _
  unfold mopt
  cases toB x <;> rfl
@[simp] theorem x_orV (a b : M D) (s : S) : orV a b s = (a s).bind fun x s => match toB x with | some c => (if c = true then mret (.bl true) else b) s | none => .bad := by
  show (a s).bind _ = _
  refine bind_ext fun x s => ?_
  show (mopt (fun _ => toB x) s).bind _ = _
  unfold mopt
  cases toB x <;> rfl
@[simp] theorem x_notV (a : M D) (s : S) : notV a s = (a s).bind fun x s => match toB x with | some c => .ok (.bl (!c)) s | none => .bad := by
  show (a s).bind _ = _
  refine bind_ext fun x s => ?_
  show (mopt (fun _ => toB x) s).bind _ = _
  unfold mopt
  cases toB x <;> rfl
@[simp] theorem x_ifD (t : M Bool) (a b : M D) (s : S) : ifD t a b s = (t s).bind fun c => if c = true then a else b := rfl
@[simp] theorem x_ifF (t : M Bool) (a b : M Own) (s : S) : ifF t a b s = (t s).bind fun c => if c = true then a else b := rfl
@[simp] theorem x_ifM (t : M Bool) (a b : M Fl) (s : S) : ifM t a b s = (t s).bind fun c => if c = true then a else b := rfl
@[simp] theorem x_ite (c : Bool) (a b : M α) (s : S) : (if c = true then a else b) s = if c = true then a s else b s := by cases c <;> rfl
@[simp] theorem x_aNil (s : S) : aNil s = .ok [] s := rfl
@[simp] theorem x_aCons (m : M D) (r : M (List D)) (s : S) : aCons m r s = (m s).bind fun d s => (r s).bind fun ds s => .ok (d :: ds) s := rfl
@[simp] theorem x_sq (a b : M Fl) (s : S) : sq a b s = (a s).bind fun f s => match f with | .nx => b s | f => .ok f s := by
  show (a s).bind _ = _
  refine bind_ext fun f s => ?_
  cases f <;> rfl
@[simp] theorem x_retM (m : M D) (s : S) : retM m s = (m s).bind fun d s => (fz d s).bind fun x s => .ok (.rt x) s := rfl
@[simp] theorem x_dropM (m : M D) (s : S) : dropM m s = (m s).bind fun _ s => .ok .nx s := rfl
@[simp] theorem x_asgM (m : M D) (f : D → S → Option S) (s : S) : asgM m f s = (m s).bind fun d s => (fz d s).bind fun x s => match f x s with | some s' => .ok .nx s' | none => .bad := rfl
@[simp] theorem x_setO (i : Nat) (m : M Own) (s : S) : setO i m s = (m s).bind fun o s => .ok .nx { s with sl := s.sl.set i (.own o) } := rfl
@[simp] theorem x_gN (i : Nat) (d : D) (s : S) : gN i d s = some { s with sl := s.sl.set i (.dat d) } := rfl
@[simp] theorem x_gNil (s : S) : gNil' [] s = some s := rfl
@[simp] theorem x_gCons (f : D → S → Option S) (h : List D → S → Option S) (d : D) (r : List D) (s : S) : gCons' f h (d :: r) s = (f d s).bind fun s => h r s := rfl
@[simp] theorem x_gT (n : Nat) (h : List D → S → Option S) (xs : List D) (s : S) : gT n h (.tup xs) s = if xs.length = n then h xs s else none := rfl
@[simp] theorem x_calM (f : S → List D → Option D) (ma : M (List D)) (s : S) : calM f ma s = (ma s).bind fun ds s => mo (f s ds) s := rfl
@[simp] theorem x_calF (f : S → List D → Option Own) (ma : M (List D)) (s : S) : calF f ma s = (ma s).bind fun ds s => mo (f s ds) s := rfl
@[simp] theorem x_frz (m : M Own) (s : S) : frz m s = (m s).bind fun o s => .ok o.dat s := rfl
@[simp] theorem x_dat_lst (xs : List D) : (Own.lst xs).dat = .lst xs := rfl
@[simp] theorem x_dat_dct (xs : List (Key × D)) : (Own.dct xs).dat = .dct xs := rfl
@[simp] theorem x_lstM (ma : M (List D)) (s : S) : lstM ma s = (ma s).bind fun ds s => (fzs ds s).bind fun xs s => if xs.length ≤ sizeLine then .ok (.lst xs) s else .bad := by
  show (ma s).bind _ = _
  refine bind_ext fun ds s => ?_
  show (fzs ds s).bind _ = _
  refine bind_ext fun xs s => ?_
  show mopt _ s = _
  unfold mopt
  by_cases h : xs.length ≤ sizeLine
  · simp only [if_pos h]
  · simp only [if_neg h]
@[simp] theorem x_tupM (ma : M (List D)) (s : S) : tupM ma s = (ma s).bind fun ds s => (fzs ds s).bind fun xs s => if xs.length ≤ sizeLine then .ok (.tup xs) s else .bad := by
  show (ma s).bind _ = _
  refine bind_ext fun ds s => ?_
  show (fzs ds s).bind _ = _
  refine bind_ext fun xs s => ?_
  show mopt _ s = _
  unfold mopt
  by_cases h : xs.length ≤ sizeLine
  · simp only [if_pos h]
  · simp only [if_neg h]
@[simp] theorem x_fzs_nil (s : S) : fzs [] s = .ok [] s := rfl
@[simp] theorem x_fzs_cons (d : D) (ds : List D) (s : S) : fzs (d :: ds) s = (fz d s).bind fun x s => (fzs ds s).bind fun xs s => .ok (x :: xs) s := rfl
@[simp] theorem x_fz_non (s : S) : fz .non s = .ok .non s := rfl
@[simp] theorem x_fz_bl (b : Bool) (s : S) : fz (.bl b) s = .ok (.bl b) s := rfl
@[simp] theorem x_fz_int (b : Int) (s : S) : fz (.int b) s = .ok (.int b) s := rfl
@[simp] theorem x_fz_str (b : List Nat) (s : S) : fz (.str b) s = .ok (.str b) s := rfl
@[simp] theorem x_fz_lst (b : List D) (s : S) : fz (.lst b) s = .ok (.lst b) s := rfl
@[simp] theorem x_fz_tup (b : List D) (s : S) : fz (.tup b) s = .ok (.tup b) s := rfl
@[simp] theorem x_fz_obj (C : Addr) (b : List (Str × D)) (s : S) : fz (.obj C b) s = .ok (.obj C b) s := rfl
@[simp] theorem x_fz_dct (b : List (Key × D)) (s : S) : fz (.dct b) s = .ok (.dct b) s := rfl
@[simp] theorem x_fz_shr (k : Nat) (s : S) : fz (.shr k) s = .ok (.shr k) s := rfl
@[simp] theorem x_fz_scr (k : List Int) (s : S) : fz (.scr k) s = .ok (.scr k) s := rfl
@[simp] theorem x_fz_loc (i : Nat) (s : S) : fz (.loc i) s = match s.sl[i]? with | some (.own o) => .ok o.dat { s with sl := s.sl.set i (.dat o.dat) } | some (.dat d) => .ok d s | _ => .bad := rfl
@[simp] theorem x_dd_non : dd s .non = some .non := rfl
@[simp] theorem x_dd_bl (b : Bool) : dd s (.bl b) = some (.bl b) := rfl
@[simp] theorem x_dd_int (b : Int) : dd s (.int b) = some (.int b) := rfl
@[simp] theorem x_dd_str (b : List Nat) : dd s (.str b) = some (.str b) := rfl
@[simp] theorem x_dd_lst (b : List D) : dd s (.lst b) = some (.lst b) := rfl
@[simp] theorem x_dd_tup (b : List D) : dd s (.tup b) = some (.tup b) := rfl
@[simp] theorem x_dd_obj (C : Addr) (b : List (Str × D)) : dd s (.obj C b) = some (.obj C b) := rfl
@[simp] theorem x_dd_dct (b : List (Key × D)) : dd s (.dct b) = some (.dct b) := rfl
@[simp] theorem x_dd_shr (k : Nat) : dd s (.shr k) = (s.mu[k]?).map Own.dat := rfl
@[simp] theorem x_dd_loc (i : Nat) : dd s (.loc i) = match s.sl[i]? with | some (.own o) => some o.dat | some (.bor o) => some o.dat | some (.dat d) => some d | _ => none := rfl
@[simp] theorem x_rdL_lst (b : List D) : rdL s (.lst b) = some b := rfl
theorem rdL_dd (d : D) : rdL s d = match d with | .loc i => (match s.sl[i]? with | some (.own (.lst xs)) => some xs | some (.bor (.lst xs)) => some xs | some (.dat (.lst xs)) => some xs | _ => none) | .lst xs => some xs | .shr k => (match s.mu[k]? with | some (.lst xs) => some xs | _ => none) | _ => none := by
  unfold rdL dr
  cases d with
  | loc i =>
    simp only
    cases s.sl[i]? with
    | none => rfl
    | some z =>
      cases z with
      | own o => cases o <;> rfl
      | bor o => cases o <;> rfl
      | dat d => cases d <;> rfl
      | non => rfl
  | shr k =>
    simp only <;> (cases s.mu[k]? with
    | none => rfl
    | some o => cases o <;> rfl)
  | _ => rfl
@[simp] theorem x_rdL_loc (i : Nat) : rdL s (.loc i) = match s.sl[i]? with | some (.own (.lst xs)) => some xs | some (.bor (.lst xs)) => some xs | some (.dat (.lst xs)) => some xs | _ => none := rdL_dd _
@[simp] theorem x_rdS (d : D) : rdS s d = match dd s d with | some (.lst xs) => some xs | some (.tup xs) => some xs | _ => none := rfl
@[simp] theorem x_rdK (d : D) : rdK s d = match dd s d with | some (.dct k) => some k | _ => none := rfl
/-- the field f of d -/
def fldOf (C : Addr) (f : Str) (s : S) (d : D) : Option D := match dd s d with | some (.obj C' fs) => if C' = C then fs.lookup f else none | _ => none
@[simp] theorem x_fldD (C : Addr) (f : Str) (m : M D) (s : S) : fldD C f m s = (m s).bind fun d s => mo (fldOf C f s d) s := rfl
@[simp] theorem x_sm1 (f : S → List Nat → D → Option D) (m1 ma : M D) (s : S) : sm1 f m1 ma s = (m1 s).bind fun x s => (mo (toS x) s).bind fun z s => (ma s).bind fun y s => mo (f s z y) s := rfl
@[simp] theorem x_toS (x : List Nat) : toS (.str x) = some x := rfl
@[simp] theorem x_ss (f : List Nat → List Nat → Option D) (z y : List Nat) : ss f s z (.str y) = f z y := rfl
@[simp] theorem x_anyI_str (m : M D) (s : S) : anyI m s = (m s).bind fun d s => (fz d s).bind fun x s => mo (match x with | .lst xs => some xs | .tup xs => some xs | .str x => some (x.map fun c => D.str [c]) | _ => none) s := rfl
@[simp] theorem x_enumA (ma : M (List D)) (s : S) : enumA ma s = (ma s).bind fun ds s => (fzs ds s).bind fun xs s => mo (match xs with | [.lst ys] => some (enumL 0 ys) | [.tup ys] => some (enumL 0 ys) | _ => none) s := rfl
@[simp] theorem x_lenM {n : Nat} {xs : List D} (s : S) : lenM n xs s = if xs.length = n then .ok xs s else .bad := rfl
@[simp] theorem x_callR (F : FD) (ds : List D) (s : S) : callR F ds s = match F ds s.mu with | .ok d mu => .ok d { s with mu := mu } | .exc x mu => .exc x { s with mu := mu } | .bad => .bad := rfl
@[simp] theorem x_callN (n : Nat) (F : FD) (dds : List D) (ma : M (List D)) (s : S) : callN n F dds ma s = (ma s).bind fun ds s => (fzs ds s).bind fun xs s => (lenM n (xs ++ dds) s).bind fun ys s => callR F ys s := rfl
@[simp] theorem x_makeM (C : Addr) (n : Nat) (F : FI) (dds : List D) (ma : M (List D)) (s : S) : makeM C n F dds ma s = (ma s).bind fun ds s => (fzs ds s).bind fun xs s => (lenM n (xs ++ dds) s).bind fun ys s => match F ys s.mu with | .ok fs mu => .ok (.obj C fs) { s with mu := mu } | .exc x mu => .exc x { s with mu := mu } | .bad => .bad := rfl
@[simp] theorem x_slM (f : S → D → Option Int → Option Int → Option D) (m : M D) (ml mh : M (Option Int)) (s : S) : slM f m ml mh s = (m s).bind fun d s => (ml s).bind fun l s => (mh s).bind fun h s => mo (f s d l h) s := rfl
@[simp] theorem x_noP (s : S) : noP s = .ok none s := rfl
@[simp] theorem x_someP (m : M D) (s : S) : someP m s = (m s).bind fun d s => mo ((toI d).map some) s := rfl
@[simp] theorem x_toI (i : Int) : toI (.int i) = some i := rfl
@[simp] theorem x_negD (m : M D) (s : S) : negD m s = (m s).bind fun d s => mo (match d with | .int i => some (.int (-i)) | _ => none) s := rfl
@[simp] theorem x_iiD (g : Int → Int → Option D) (i j : Int) : iiD g s (.int i) (.int j) = g i j := rfl
@[simp] theorem x_len (d : D) : lenD s [d] = match dd s d with | some (.str x) => if x.length ≤ sizeLine then some (.int x.length) else none | some (.lst xs) => some (.int xs.length) | some (.tup xs) => some (.int xs.length) | _ => none := rfl
@[simp] theorem x_whl (t : M Bool) (b : M Fl) (n : Nat) (s : S) : whlM t b (n + 1) s = (t s).bind fun c s => if c = true then (b s).bind (fun fl s => match fl with | .nx => whlM t b n s | .ct => whlM t b n s | .bk => .ok .nx s | .rt d => .ok (.rt d) s) else .ok .nx s := by
  show (t s).bind _ = _
  refine bind_ext fun c s => ?_
  cases c with
  | false => rfl
  | true =>
    show (b s).bind _ = _
    simp only [if_true]
    refine bind_ext fun fl s => ?_
    cases fl <;> rfl
@[simp] theorem x_for (mi : M (List D)) (f : D → S → Option S) (b : M Fl) (s : S) : forM' mi f b s = (mi s).bind fun ds s => loopD f b ds s := rfl
@[simp] theorem x_loop_nil (f : D → S → Option S) (b : M Fl) (s : S) : loopD f b [] s = .ok .nx s := rfl
theorem x_loop_cons (f : D → S → Option S) (b : M Fl) (d : D) (ds : List D) (s : S) : loopD f b (d :: ds) s = match f d s with | none => .bad | some s1 => (b s1).bind fun fl s => match fl with | .nx => loopD f b ds s | .ct => loopD f b ds s | .bk => .ok .nx s | .rt d => .ok (.rt d) s := by
  conv => lhs; unfold loopD
  cases f d s with
  | none => rfl
  | some s1 =>
    show (b s1).bind _ = (b s1).bind _
    refine bind_ext fun fl s => ?_
    cases fl <;> rfl
@[simp] theorem x_lcM (mi : M (List D)) (vs : List Nat) (f : D → S → Option S) (t : M Bool) (e : M D) (s : S) : lcM mi vs f t e s = (mi s).bind fun ds s => match lcLoop (blkS s.sl vs) f t e ds [] s.mu with | .ok xs s' => .ok (.lst xs) ⟨s.sl, s'.mu⟩ | _ => .bad := rfl
@[simp] theorem x_yesM (s : S) : yesM s = .ok true s := rfl
@[simp] theorem x_bor_dat (d : D) : bor1 (.dat d) = .dat d := rfl
@[simp] theorem x_bor_non : bor1 .non = .non := rfl
@[simp] theorem x_bor_own (o : Own) : bor1 (.own o) = .bor o := rfl
@[simp] theorem x_blk (sl : List Sl) (vs : List Nat) : blkS sl vs = wipeS (sl.map bor1) vs := rfl
@[simp] theorem x_wipe_nil (sl : List Sl) : wipeS sl [] = sl := rfl
@[simp] theorem x_wipe_cons (sl : List Sl) (v : Nat) (vs : List Nat) : wipeS sl (v :: vs) = (wipeS sl vs).set v .non := rfl
@[simp] theorem x_begS (n : Nat) (ds : List D) : begS n ds = ds.map .dat ++ List.replicate (n - ds.length) .non := rfl
theorem x_runB (n : Nat) (m : M Fl) (ds : List D) (mu : List Own) : runB n m ds mu = match m ⟨begS n ds, mu⟩ with | .ok (.rt d) s => .ok d s.mu | .ok .nx s => .ok .non s.mu | .exc x s => .exc x s.mu | _ => .bad := rfl
theorem bind_first {r r' : R α} {f : α → S → R β} (h : r = r') : r.bind f = r'.bind f := by rw [h]
/-- a comprehension over data, by what it makes of each item (the store untouched) -/
theorem lc_map {sl : List Sl} {f : D → S → Option S} {t : M Bool} {e : M D} (tb : D → Bool) (g : D → D) {mu : List Own} : ∀ (ds acc : List D), (∀ d ∈ ds, ∃ s1 s2, f d ⟨sl, mu⟩ = some s1 ∧ t s1 = .ok (tb d) s2 ∧ s2.mu = mu ∧ (tb d = true → ∃ s3, mb e fz s2 = .ok (g d) s3 ∧ s3.mu = mu)) → acc.length + ds.length ≤ sizeLine →
    lcLoop sl f t e ds acc mu = .ok (acc ++ (ds.filter tb).map g) ⟨sl, mu⟩
  | [], acc, _, _ => by simp [lcLoop]
  | d :: ds, acc, h, hl => by
    obtain ⟨s1, s2, h1, h2, h3, h4⟩ := h d (by simp)
    have hl' : acc.length + (ds.length + 1) ≤ sizeLine := by simpa using hl
    unfold lcLoop
    rw [h1]
    simp only
    rw [h2]
    cases hb : tb d with
    | false =>
      simp only
      rw [h3]
      have := lc_map (sl := sl) (f := f) (t := t) (e := e) tb g (mu := mu) ds acc (fun x hx => h x (by simp [hx])) (by omega)
      rw [this]
      simp [hb]
    | true =>
      simp only
      obtain ⟨s3, h5, h6⟩ := h4 hb
      rw [h5]
      simp only
      rw [if_pos (by omega), h6]
      have := lc_map (sl := sl) (f := f) (t := t) (e := e) tb g (mu := mu) ds (acc ++ [g d]) (fun x hx => h x (by simp [hx])) (by simp; omega)
      rw [this]
      simp [hb]
end
end DL
end
section -- DW
set_option Elab.async false
set_option linter.all false
set_option maxRecDepth 100000
namespace DL
open PySem PySem.Spec L2

/-! ### texts by their signs -/
/-- m begins w -/
def pre (m w : List Nat) : Bool := w.take m.length == m
theorem starts_pre (w m : List Nat) : Txt.startswith (sx w) (sx m) = pre m w := by
  unfold Txt.startswith pre
  rw [StrLaws.subAt_eq]
  show (decide (0 + m.length ≤ w.length) && ((w.drop 0).take m.length == m)) = _
  rw [List.drop_zero]
  cases h : (w.take m.length == m) with
  | false => simp
  | true =>
    have e := eq_of_beq h
    have : m.length ≤ w.length := by
      have := congrArg List.length e
      rw [List.length_take] at this
      omega
    simp [this]
theorem pre_iff {m w : List Nat} : pre m w = true ↔ ∃ r, w = m ++ r := by
  unfold pre
  constructor
  · intro h
    have e := eq_of_beq h
    exact ⟨w.drop m.length, by
      have e2 := (List.take_append_drop m.length w).symm
      rwa [e] at e2⟩
  · rintro ⟨r, rfl⟩
    simp
theorem pre_take {m w : List Nat} {n : Nat} (h : m.length ≤ n) : pre m (w.take n) = pre m w := by
  unfold pre
  rw [List.take_take, Nat.min_eq_left h]
theorem cut_mid {xs : List Nat} {a b : Nat} : cutN xs (some (a : Int)) (some (b : Int)) = (xs.drop a).take (b - a) := by
  unfold cutN
  rw [HT.sIx_nat, HT.sIx_nat]
  by_cases ha : a ≤ xs.length
  · rw [Nat.min_eq_left ha]
    by_cases hb : b ≤ xs.length
    · rw [Nat.min_eq_left hb]
    · rw [Nat.min_eq_right (by omega)]
      rw [List.take_of_length_le (by simp), List.take_of_length_le (by simp; omega)]
  · have e : min a xs.length = xs.length := Nat.min_eq_right (by omega)
    rw [e, List.drop_of_length_le (Nat.le_refl xs.length), List.drop_of_length_le (show xs.length ≤ a by omega)]
    simp
theorem cut_to {xs : List Nat} {b : Nat} : cutN xs none (some (b : Int)) = xs.take b := by
  unfold cutN
  rw [HT.sIx_nat, HT.sIx_none, List.drop_zero, Nat.sub_zero]
  by_cases hb : b ≤ xs.length
  · rw [Nat.min_eq_left hb]
  · rw [Nat.min_eq_right (by omega), List.take_of_length_le (Nat.le_refl _), List.take_of_length_le (by omega)]
theorem cut_midD {xs : List D} {a b : Nat} : cutD xs (some (a : Int)) (some (b : Int)) = (xs.drop a).take (b - a) := by
  unfold cutD
  rw [HT.sIx_nat, HT.sIx_nat]
  by_cases ha : a ≤ xs.length
  · rw [Nat.min_eq_left ha]
    by_cases hb : b ≤ xs.length
    · rw [Nat.min_eq_left hb]
    · rw [Nat.min_eq_right (by omega)]
      rw [List.take_of_length_le (by simp), List.take_of_length_le (by simp; omega)]
  · have e : min a xs.length = xs.length := Nat.min_eq_right (by omega)
    rw [e, List.drop_of_length_le (Nat.le_refl xs.length), List.drop_of_length_le (show xs.length ≤ a by omega)]
    simp
theorem cut_toD {xs : List D} {b : Nat} : cutD xs none (some (b : Int)) = xs.take b := by
  unfold cutD
  rw [HT.sIx_nat, HT.sIx_none, List.drop_zero, Nat.sub_zero]
  by_cases hb : b ≤ xs.length
  · rw [Nat.min_eq_left hb]
  · rw [Nat.min_eq_right (by omega), List.take_of_length_le (Nat.le_refl _), List.take_of_length_le (by omega)]
theorem cut_fromD {xs : List D} {a : Nat} : cutD xs (some (a : Int)) none = xs.drop a := by
  unfold cutD
  rw [HT.sIx_nat, HT.sIx_none]
  by_cases ha : a ≤ xs.length
  · rw [Nat.min_eq_left ha, List.take_of_length_le (by simp)]
  · rw [Nat.min_eq_right (by omega), List.drop_of_length_le (Nat.le_refl _), List.drop_of_length_le (by omega)]
    simp

/-! ### lists that were walked -/
theorem enumL_map {α : Type} (enc : α → D) : ∀ (xs : List α) (n : Nat), enumL n (xs.map enc) = (xs.zipIdx n).map fun p => .tup [.int p.2, enc p.1]
  | [], n => rfl
  | x :: xs, n => by
    rw [List.map_cons, enumL, enumL_map enc xs (n + 1), List.zipIdx_cons, List.map_cons]
/-- a comprehension over typed items, with a test -/
theorem lc_typed {α : Type} {sl : List Sl} {f : D → S → Option S} {t : M Bool} {e : M D} {enc : α → D} {mu : List Own} (tb : α → Bool) (g : α → D) : ∀ (xs : List α) (acc : List D), (∀ x ∈ xs, ∃ s1 s2, f (enc x) ⟨sl, mu⟩ = some s1 ∧ t s1 = .ok (tb x) s2 ∧ s2.mu = mu ∧ (tb x = true → ∃ s3, mb e fz s2 = .ok (g x) s3 ∧ s3.mu = mu)) → acc.length + xs.length ≤ sizeLine →
    lcLoop sl f t e (xs.map enc) acc mu = .ok (acc ++ (xs.filter tb).map g) ⟨sl, mu⟩
  | [], acc, _, _ => by simp [lcLoop]
  | d :: ds, acc, h, hl => by
    obtain ⟨s1, s2, h1, h2, h3, h4⟩ := h d (by simp)
    have hl' : acc.length + (ds.length + 1) ≤ sizeLine := by simpa using hl
    rw [List.map_cons]
    unfold lcLoop
    rw [h1]
    simp only
    rw [h2]
    cases hb : tb d with
    | false =>
      simp only
      rw [h3]
      have := lc_typed (sl := sl) (f := f) (t := t) (e := e) (enc := enc) tb g (mu := mu) ds acc (fun x hx => h x (by simp [hx])) (by omega)
      rw [this]
      simp [hb]
    | true =>
      simp only
      obtain ⟨s3, h5, h6⟩ := h4 hb
      rw [h5]
      simp only
      rw [if_pos (by omega), h6]
      have := lc_typed (sl := sl) (f := f) (t := t) (e := e) (enc := enc) tb g (mu := mu) ds (acc ++ [g d]) (fun x hx => h x (by simp [hx])) (by simp; omega)
      rw [this]
      simp [hb]
/-- .. without one -/
theorem lc_all {α : Type} {sl : List Sl} {f : D → S → Option S} {e : M D} {enc : α → D} {mu : List Own} (g : α → D) (xs : List α) (acc : List D) (h : ∀ x ∈ xs, ∃ s1 s3, f (enc x) ⟨sl, mu⟩ = some s1 ∧ s1.mu = mu ∧ mb e fz s1 = .ok (g x) s3 ∧ s3.mu = mu) (hl : acc.length + xs.length ≤ sizeLine) :
    lcLoop sl f yesM e (xs.map enc) acc mu = .ok (acc ++ xs.map g) ⟨sl, mu⟩ := by
  have := lc_typed (sl := sl) (f := f) (t := yesM) (e := e) (enc := enc) (mu := mu) (fun _ => true) g xs acc (fun x hx => by
    obtain ⟨s1, s3, h1, h2, h3, h4⟩ := h x hx
    exact ⟨s1, s1, h1, rfl, h2, fun _ => ⟨s3, h3, h4⟩⟩) hl
  rw [this]
  congr 2
  rw [List.filter_eq_self.mpr (fun _ _ => rfl)]

theorem lc_ty {α : Type} (enc : α → D) (xs : List α) (tb : α → Bool) (g : α → D) {sl : List Sl} {f : D → S → Option S} {t : M Bool} {e : M D} {mu : List Own} {ds acc : List D} (hds : ds = xs.map enc) (h : ∀ x ∈ xs, ∃ s1 s2, f (enc x) ⟨sl, mu⟩ = some s1 ∧ t s1 = .ok (tb x) s2 ∧ s2.mu = mu ∧ (tb x = true → ∃ s3, mb e fz s2 = .ok (g x) s3 ∧ s3.mu = mu)) (hl : acc.length + xs.length ≤ sizeLine) :
    lcLoop sl f t e ds acc mu = .ok (acc ++ (xs.filter tb).map g) ⟨sl, mu⟩ := by
  subst hds
  exact lc_typed tb g xs acc h hl
theorem lc_al {α : Type} (enc : α → D) (xs : List α) (g : α → D) {sl : List Sl} {f : D → S → Option S} {e : M D} {mu : List Own} {ds acc : List D} (hds : ds = xs.map enc) (h : ∀ x ∈ xs, ∃ s1 s3, f (enc x) ⟨sl, mu⟩ = some s1 ∧ s1.mu = mu ∧ mb e fz s1 = .ok (g x) s3 ∧ s3.mu = mu) (hl : acc.length + xs.length ≤ sizeLine) :
    lcLoop sl f yesM e ds acc mu = .ok (acc ++ xs.map g) ⟨sl, mu⟩ := by
  subst hds
  exact lc_all g xs acc h hl
@[simp] theorem cs_empty : cs "" = [] := rfl
@[simp] theorem x_iteP {α : Type} (P : Prop) [Decidable P] (a b : M α) (s : S) : (if P then a else b) s = if P then a s else b s := by
  by_cases h : P
  · rw [if_pos h, if_pos h]
  · rw [if_neg h, if_neg h]
/-! ### equality -/
theorem okPys_map {α : Type} {g : α → D} {n : Nat} {xs : List α} (h : ∀ x ∈ xs, okPy (g x) n = true) : okPys (xs.map g) n = true := by
  induction xs with
  | nil => rfl
  | cons x xs ih =>
    rw [List.map_cons, okPys, h x (by simp), ih fun y hy => h y (by simp [hy])]
    rfl
theorem eq_nil {s : S} {xs : List D} (h : okPys xs 59 = true) : eqD s (.lst xs) (.lst []) = some (.bl xs.isEmpty) := by
  unfold eqD
  show deepD false s (.lst xs) (.lst []) = _
  unfold deepD
  simp only [x_dd_lst]
  rw [if_pos ⟨by show okPys xs 59 = true; exact h, rfl⟩]
  cases xs with
  | nil => rfl
  | cons x xs => show some (D.bl (PyData.eqv (.list (toPy x :: toPys xs)) (.list []))) = _; rw [PyData.eqv]; rfl
theorem ne_nil {s : S} {xs : List D} (h : okPys xs 59 = true) : neD s (.lst xs) (.lst []) = some (.bl (!xs.isEmpty)) := by
  unfold neD
  show deepD true s (.lst xs) (.lst []) = _
  unfold deepD
  simp only [x_dd_lst]
  rw [if_pos ⟨by show okPys xs 59 = true; exact h, rfl⟩]
  cases xs with
  | nil => rfl
  | cons x xs => show some (D.bl (!PyData.eqv (.list (toPy x :: toPys xs)) (.list []))) = _; rw [PyData.eqv]; rfl
@[simp] theorem eq_str {s : S} (x y : List Nat) : eqD s (.str x) (.str y) = some (.bl (decide (x = y))) := rfl
@[simp] theorem ne_str {s : S} (x y : List Nat) : neD s (.str x) (.str y) = some (.bl (!decide (x = y))) := rfl
@[simp] theorem eq_int {s : S} (x y : Int) : eqD s (.int x) (.int y) = some (.bl (decide (x = y))) := rfl
@[simp] theorem ne_int {s : S} (x y : Int) : neD s (.int x) (.int y) = some (.bl (!decide (x = y))) := rfl
@[simp] theorem isN_non {s : S} {n : Bool} : isND n s .non .non = some (.bl (if n then false else true)) := rfl
@[simp] theorem isN_tup {s : S} {n : Bool} (x : List D) : isND n s (.tup x) .non = some (.bl (if n then true else false)) := rfl

@[simp] theorem lt_0 : 0 < sizeLine := by decide
@[simp] theorem lt_1 : 1 < sizeLine := by decide
@[simp] theorem lt_2 : 2 < sizeLine := by decide
@[simp] theorem lt_3 : 3 < sizeLine := by decide
@[simp] theorem lt_4 : 4 < sizeLine := by decide
@[simp] theorem lt_5 : 5 < sizeLine := by decide
@[simp] theorem lt_6 : 6 < sizeLine := by decide
@[simp] theorem lt_7 : 7 < sizeLine := by decide
@[simp] theorem lt_8 : 8 < sizeLine := by decide
@[simp] theorem le_0 : 0 ≤ sizeLine := by decide
@[simp] theorem le_1 : 1 ≤ sizeLine := by decide
@[simp] theorem le_2 : 2 ≤ sizeLine := by decide
@[simp] theorem le_3 : 3 ≤ sizeLine := by decide
@[simp] theorem le_4 : 4 ≤ sizeLine := by decide
@[simp] theorem le_5 : 5 ≤ sizeLine := by decide
@[simp] theorem le_6 : 6 ≤ sizeLine := by decide
@[simp] theorem le_7 : 7 ≤ sizeLine := by decide
@[simp] theorem le_8 : 8 ≤ sizeLine := by decide
/-! ### the greatest of pairs -/
def ltII (a b : Int × Int) : Bool := decide (a.1 < b.1) || (!decide (b.1 < a.1) && decide (a.2 < b.2))
def encII (a : Int × Int) : D := .tup [.int a.1, .int a.2]
theorem ltII_ok (a b : Int × Int) : PySem.W.dataLt (toPy (encII a)) (toPy (encII b)) = ltII a b := by
  show PySem.W.dataLt (.tuple [.int a.1, .int a.2]) (.tuple [.int b.1, .int b.2]) = ltII a b
  unfold PySem.W.dataLt ltII
  simp only [PySem.W.keyToks, PySem.W.keyToksAll, List.append_nil, List.cons_append, List.nil_append]
  simp [PyProof.Rows.lexLt, PyProof.Rows.itemLt]
def ltIS (a b : Int × List Nat) : Bool := decide (a.1 < b.1) || (!decide (b.1 < a.1) && decide (a.2 < b.2))
def encIS (a : Int × List Nat) : D := .tup [.int a.1, .str a.2]
theorem ltIS_ok (a b : Int × List Nat) : PySem.W.dataLt (toPy (encIS a)) (toPy (encIS b)) = ltIS a b := by
  show PySem.W.dataLt (.tuple [.int a.1, .str (sx a.2)]) (.tuple [.int b.1, .str (sx b.2)]) = ltIS a b
  unfold PySem.W.dataLt ltIS
  simp only [PySem.W.keyToks, PySem.W.keyToksAll, List.append_nil, List.cons_append, List.nil_append]
  simp [PyProof.Rows.lexLt, PyProof.Rows.itemLt]
theorem alikes_map {α : Type} {enc : α → D} (h : ∀ a b, PySem.W.alike (toPy (enc a)) (toPy (enc b)) = true) (hn : ∀ a, toPy (enc a) ≠ .none) (xs : List α) : alikes (xs.map enc) = true := by
  unfold alikes
  rw [List.all_eq_true]
  intro y hy
  obtain ⟨a, _, rfl⟩ := List.mem_map.mp hy
  rw [Bool.and_eq_true, List.all_eq_true]
  refine ⟨fun z hz => ?_, ?_⟩
  · obtain ⟨b, _, rfl⟩ := List.mem_map.mp hz
    exact h a b
  · have := hn a
    revert this
    cases toPy (enc a) <;> simp
def bestOf {α : Type} (lt : α → α → Bool) (x : α) (xs : List α) : α := xs.foldl (fun a y => if lt a y = true then y else a) x
theorem max_enc {α : Type} {enc : α → D} {lt : α → α → Bool} {s : S} (hl : ∀ a b, PySem.W.dataLt (toPy (enc a)) (toPy (enc b)) = lt a b) (x : α) (xs : List α) (ok : okPys ((x :: xs).map enc) 58 = true) (al : alikes ((x :: xs).map enc) = true) :
    maxA s [.lst ((x :: xs).map enc)] = some (enc (bestOf lt x xs)) := by
  show maxLD s [.lst ((x :: xs).map enc)] = _
  unfold maxLD
  simp only [x_rdL_lst]
  rw [List.map_cons] at ok al ⊢
  simp only
  rw [if_pos ⟨ok, al⟩]
  congr 1
  have : ∀ (ys : List α) (z : α), mxD (enc z) (ys.map enc) = enc (bestOf lt z ys) := by
    intro ys
    induction ys with
    | nil => intro z; rfl
    | cons y ys ih =>
      intro z
      show mxD (if PySem.W.dataLt (toPy (enc z)) (toPy (enc y)) = true then enc y else enc z) (ys.map enc) = enc (bestOf lt (if lt z y = true then y else z) ys)
      rw [hl z y]
      by_cases h : lt z y = true
      · rw [if_pos h, if_pos h]; exact ih y
      · rw [if_neg h, if_neg h]; exact ih z
  exact this xs x
theorem max_II {s : S} (x : Int × Int) (xs : List (Int × Int)) : maxA s [.lst ((x :: xs).map encII)] = some (encII (bestOf ltII x xs)) :=
  max_enc ltII_ok x xs (okPys_map fun _ _ => rfl) (alikes_map (fun _ _ => rfl) (fun _ z => by cases z) _)
theorem max_IS {s : S} (x : Int × List Nat) (xs : List (Int × List Nat)) (h : ∀ y ∈ x :: xs, y.2.all (· < 0x110000) = true) : maxA s [.lst ((x :: xs).map encIS)] = some (encIS (bestOf ltIS x xs)) :=
  max_enc ltIS_ok x xs (okPys_map fun y hy => by
    show (okPy (.str y.2) 57 && true) = true
    rw [Bool.and_true]; exact h y hy) (alikes_map (fun _ _ => rfl) (fun _ z => by cases z) _)
theorem ixN_nat {n i : Nat} (h : i < n) : ixN n (i : Int) = some i := by
  unfold ixN
  simp
  omega
/-- an item of a typed list -/
theorem ixD_lst {α : Type} {enc : α → D} {s : S} {xs : List α} {i : Nat} {x : α} (h : xs[i]? = some x) : ixD s (.lst (xs.map enc)) (.int (i : Int)) = some (enc x) := by
  show atD (xs.map enc) (i : Int) = _
  have hi : i < xs.length := (List.getElem?_eq_some_iff.mp h).1
  unfold atD
  rw [ixN_nat (by simpa using hi)]
  show (xs.map enc)[i]? = _
  rw [List.getElem?_map, h]
  rfl

/-! ### more runs -/
@[simp] theorem x_int2 {s : S} (g : Int → Int → Option D) (i j : Int) : int2 g s [.int i, .int j] = g i j := rfl
@[simp] theorem x_int1 {s : S} (g : Int → Option D) (i : Int) : int1 g s [.int i] = g i := rfl
@[simp] theorem x_intS {s : S} (i : Int) : intS s [.int i] = some (.int i) := rfl
@[simp] theorem x_intSb {s : S} (b : Bool) : intS s [.bl b] = some (.int (if b then 1 else 0)) := rfl
@[simp] theorem x_chnD (f f' : S → D → D → Option D) (m1 m2 m3 : M D) (s : S) : chnD f f' m1 m2 m3 s = (m1 s).bind fun x s => (m2 s).bind fun y s => (mo ((f s x y).bind toB) s).bind fun c => if c = true then (fun s => (m3 s).bind fun z s => mo (f' s y z) s) else mret (.bl false) := rfl

def apE (x : D) (zs : List D) (s : S) : R D := match zs, ow s x with
  | [z], some (.lst xs) => if xs.length < sizeLine then .ok .non (putO s x (.lst (xs ++ [z]))) else .bad
  | _, _ => .bad
@[simp] theorem x_apM (m : M D) (ma : M (List D)) (s : S) : apM m ma s = (m s).bind fun x s => (mo (rdL s x) s).bind fun _ s => (ma s).bind fun ys s => (fzs ys s).bind fun zs s => apE x zs s := rfl
@[simp] theorem x_apE (i : Nat) (z : D) (s : S) : apE (.loc i) [z] s = match s.sl[i]? with | some (.own (.lst xs)) => if xs.length < sizeLine then .ok .non { s with sl := s.sl.set i (.own (.lst (xs ++ [z]))) } else .bad | _ => .bad := by
  unfold apE ow
  simp only
  cases s.sl[i]? with
  | none => rfl
  | some y =>
    cases y with
    | own o => cases o <;> rfl
    | _ => rfl
def agE (i : Nat) (f : Int → Int → Int) (a : Int) (y : D) (s : S) : R Fl := match y with | .int b => .ok .nx { s with sl := s.sl.set i (.dat (.int (f a b))) } | _ => .bad
@[simp] theorem x_agE (i : Nat) (f : Int → Int → Int) (a b : Int) (s : S) : agE i f a (.int b) s = .ok .nx { s with sl := s.sl.set i (.dat (.int (f a b))) } := rfl
@[simp] theorem x_augI (i : Nat) (m : M D) (f : Int → Int → Int) (s : S) : augI i m f s = match s.sl[i]? with | some (.dat (.int a)) => (m s).bind fun y s => agE i f a y s | _ => .bad := rfl
@[simp] theorem addA_int {s : S} (a b : Int) : addA s (.int a) (.int b) = some (.int (a + b)) := rfl
@[simp] theorem addA_str {s : S} (a b : List Nat) : addA s (.str a) (.str b) = if a.length + b.length ≤ sizeLine then some (.str (a ++ b)) else none := rfl
@[simp] theorem addA_lst {s : S} (a b : List D) : addA s (.lst a) (.lst b) = if a.length + b.length ≤ sizeLine then some (.lst (a ++ b)) else none := rfl
@[simp] theorem slc_str {s : S} (x : List Nat) (lo hi : Option Int) : slcD s (.str x) lo hi = if x.length ≤ sizeLine then some (.str (cutN x lo hi)) else none := rfl
@[simp] theorem slc_lst {s : S} (x : List D) (lo hi : Option Int) : slcD s (.lst x) lo hi = some (.lst (cutD x lo hi)) := rfl
theorem ix_str {s : S} {x : List Nat} {i c : Nat} (hx : x.length ≤ sizeLine) (h : x[i]? = some c) : ixD s (.str x) (.int (i : Int)) = some (.str [c]) := by
  have hi : i < x.length := (List.getElem?_eq_some_iff.mp h).1
  unfold ixD
  simp only
  rw [if_pos hx, ixN_nat hi]
  show (x[i]?).map _ = _
  rw [h]; rfl
@[simp] theorem ix_str0 {s : S} (c : Nat) (r : List Nat) (h : (c :: r).length ≤ sizeLine) : ixD s (.str (c :: r)) (.int 0) = some (.str [c]) := ix_str (i := 0) h rfl
@[simp] theorem mulI {s : S} (a b : Int) : mulA s (.int a) (.int b) = if mulC a b = true then some (.int (a * b)) else none := rfl
theorem mul_one {s : S} {c : Nat} {n : Nat} (h : n ≤ 1000000) : mulA s (.str [c]) (.int (n : Int)) = some (.str (List.replicate n c)) := by
  have h2 : (1000000 : Nat) ≤ sizeLine := by decide
  show strMulD s (.str [c]) (.int (n : Int)) = _
  unfold strMulD
  simp only
  rw [if_pos ⟨by omega, by simp; omega, by omega⟩]
  unfold unS
  congr 2
  have := PyProof.Rows.mul_one_list c (n : Int)
  rw [Int.toNat_natCast] at this
  exact this
end DL
end
section -- DX
set_option Elab.async false
set_option linter.all false
set_option maxRecDepth 100000
namespace DL
open PySem PySem.Spec L2

theorem strsB_map : ∀ ys : List (List Nat), strsB (ys.map D.str) = some ys
  | [] => rfl
  | y :: ys => by rw [List.map_cons, strsB, strsB_map ys]; rfl
theorem joinL_nil : ∀ ys : List (List Nat), TL.joinL [] ys = ys.flatten
  | [] => rfl
  | [y] => by simp [TL.joinL]
  | y :: z :: ys => by
    have := joinL_nil (z :: ys)
    simp only [TL.joinL, List.flatten_cons] at this ⊢
    simp [this]
theorem join_any {s : S} {z : List Nat} {d : D} {ys : List (List Nat)} (hd : rdS s d = some (ys.map D.str)) (h : (ys.map (·.length)).sum + ys.length * z.length ≤ 16777216) : joinD s z d = some (.str (TL.joinL z ys)) := by
  unfold joinD
  rw [hd]
  show (strsB (ys.map D.str)).bind _ = _
  rw [strsB_map]
  show (if _ then _ else _) = _
  rw [if_pos h]
  unfold unS
  rw [SX.join_S z ys]
theorem join_nil {s : S} {d : D} {ys : List (List Nat)} (hd : rdS s d = some (ys.map D.str)) (h : (ys.map (·.length)).sum ≤ 16777216) : joinD s [] d = some (.str ys.flatten) := by
  rw [join_any hd (by simpa using h), joinL_nil]
def pd2 (i j : Nat) (xs : List D) (s : S) : R Fl := match xs with | [u, w] => .ok .nx (set2 s i j (.dat u) (.dat w)) | _ => .bad
@[simp] theorem x_pd2 (i j : Nat) (u w : D) (s : S) : pd2 i j [u, w] s = .ok .nx { s with sl := (s.sl.set i (.dat u)).set j (.dat w) } := rfl
@[simp] theorem x_parDD (i j : Nat) (m1 m2 : M D) (s : S) : parDD i j m1 m2 s = (m1 s).bind fun d s => (m2 s).bind fun e s => (fzs [d, e] s).bind fun xs s => pd2 i j xs s := rfl
def pd3 (i j l : Nat) (xs : List D) (s : S) : R Fl := match xs with | [u, v, w] => .ok .nx { s with sl := ((s.sl.set i (.dat u)).set j (.dat v)).set l (.dat w) } | _ => .bad
@[simp] theorem x_pd3 (i j l : Nat) (u v w : D) (s : S) : pd3 i j l [u, v, w] s = .ok .nx { s with sl := ((s.sl.set i (.dat u)).set j (.dat v)).set l (.dat w) } := rfl
@[simp] theorem x_parD3 (i j l : Nat) (m1 m2 m3 : M D) (s : S) : parD3 i j l m1 m2 m3 s = (m1 s).bind fun d s => (m2 s).bind fun e s => (m3 s).bind fun f s => (fzs [d, e, f] s).bind fun xs s => pd3 i j l xs s := rfl
@[simp] theorem x_parDE (i j : Nat) (m : M D) (s : S) : parDE i j m s = (m s).bind fun d s => (fz d s).bind fun x s => .ok .nx { s with sl := (s.sl.set i (.dat x)).set j (.own (.lst [])) } := rfl
@[simp] theorem x_parFE (i j : Nat) (m : M Own) (s : S) : parFE i j m s = (m s).bind fun o s => .ok .nx { s with sl := (s.sl.set i (.own o)).set j (.own (.lst [])) } := rfl
@[simp] theorem x_parSE (i j : Nat) (m : M Own) (s : S) : parSE i j m s = (m s).bind fun o s => .ok .nx ⟨(s.sl.set i (.dat (.shr s.mu.length))).set j (.own (.lst [])), s.mu ++ [o]⟩ := rfl
@[simp] theorem x_parEC (i j : Nat) (d : D) (s : S) : parEC i j d s = .ok .nx { s with sl := (s.sl.set i (.own (.lst []))).set j (.dat d) } := rfl
theorem ixN_last {n : Nat} (h : 0 < n) : ixN n (-1) = some (n - 1) := by
  unfold ixN
  rw [if_neg (by omega), if_pos (by omega)]
  congr 1
  omega
theorem ixD_last {α : Type} {enc : α → D} {s : S} {xs : List α} {x : α} (h : xs.getLast? = some x) : ixD s (.lst (xs.map enc)) (.int (-1)) = some (enc x) := by
  show atD (xs.map enc) (-1) = _
  have hp : 0 < xs.length := by
    cases xs with
    | nil => cases h
    | cons a b => simp
  unfold atD
  rw [ixN_last (by simpa using hp)]
  show (xs.map enc)[(xs.map enc).length - 1]? = _
  rw [List.length_map, List.getElem?_map, ← List.getLast?_eq_getElem?, h]
  rfl
@[simp] theorem ixD_tup2 {s : S} (a b c : D) (r : List D) : ixD s (.tup (a :: b :: c :: r)) (.int 2) = some c := by
  show atD (a :: b :: c :: r) ((2 : Nat) : Int) = _
  unfold atD
  rw [ixN_nat (by simp)]
  rfl
@[simp] theorem ixD_tup3 {s : S} (a b c d : D) (r : List D) : ixD s (.tup (a :: b :: c :: d :: r)) (.int 3) = some d := by
  show atD (a :: b :: c :: d :: r) ((3 : Nat) : Int) = _
  unfold atD
  rw [ixN_nat (by simp)]
  rfl
@[simp] theorem ixD_tup0 {s : S} (a : D) (r : List D) : ixD s (.tup (a :: r)) (.int 0) = some a := by
  show atD (a :: r) ((0 : Nat) : Int) = _
  unfold atD
  rw [ixN_nat (by simp)]
  rfl
@[simp] theorem ixD_tup1 {s : S} (a b : D) (r : List D) : ixD s (.tup (a :: b :: r)) (.int 1) = some b := by
  show atD (a :: b :: r) ((1 : Nat) : Int) = _
  unfold atD
  rw [ixN_nat (by simp)]
  rfl
@[simp] theorem ixD_tup4 {s : S} (a b c d e : D) (r : List D) : ixD s (.tup (a :: b :: c :: d :: e :: r)) (.int 4) = some e := by
  show atD (a :: b :: c :: d :: e :: r) ((4 : Nat) : Int) = _
  unfold atD
  rw [ixN_nat (by simp)]
  rfl
end DL
end
section -- DY
set_option Elab.async false
set_option linter.all false
set_option maxRecDepth 100000
namespace DL
open PySem PySem.Spec L2

/-! ### comprehensions over lists that are owned (they are not changed meanwhile) -/
structure DC (K : PySem.W.Frag) (g0 : Gh) (H0 : Hp) (J : It) (ds : List D) : Prop where
  goes : ∀ (i : Nat) (g : Gh) (H : Hp), Frm g0 H0 g H → Sm g.G H → i < ds.length → J.go i H
  stops : ∀ (g : Gh) (H : Hp), Frm g0 H0 g H → Sm g.G H → J.stop ds.length H
  yields : ∀ {Z : En} {s : S} {g : Gh} {σ : St} {H : Hp} {i : Nat} {d : D} {x : V} {H' : Hp}, Frm g0 H0 g H → SR K Z s g σ H → ds[i]? = some d → J.yld i H x H' → ∃ g', Gle g g' ∧ SR K Z s g' σ H' ∧ rep K g' d x
theorem DW.toC {K : PySem.W.Frag} {g0 : Gh} {H0 : Hp} {J : It} {ds : List D} (d : DW K g0 J ds) : DC K g0 H0 J ds :=
  ⟨fun i g H f sm hi => d.goes i g H f.le sm hi, fun g H f sm => d.stops g H f.le sm, fun f sr hd y => d.yields f.le sr hd y⟩
def ICEnd (K : PySem.W.Frag) (Z : En) (W : WX) (g : Gh) (σ : St) (R' : It → Hp → Prop) (r : R (List D)) : Prop := match r with
  | .ok ds s => ∀ J H' g', Gle g g' → SRz K Z s g' σ H' → DC K g' H' J ds → R' J H'
  | .exc x s => XEnd K Z W g σ x s
  | .bad => False
def tIC (K : PySem.W.Frag) (Z : En) (W : WX) (m : M (List D)) : TI := fun σ H R => ∃ s g, SRz K Z s g σ H ∧ ICEnd K Z W g σ R (m s)
section
variable {K : PySem.W.Frag} {X : Cx} {Z : En} {W : WX} {g g' : Gh} {σ : St} {H : Hp} {s : S} {tg iter e : Expr} {m : M D} {mi : M (List D)}
theorem isIC {R' : It → Hp → Prop} : IsEnd K Z W σ (fun g r => ICEnd K Z W g σ R' r) := ⟨fun {g g' r} m h => by
  cases r with
  | ok d s => exact fun J H' g2 m2 => h J H' g2 (m.trans m2)
  | exc x s => exact XEnd.up m h
  | bad => exact h, fun h => h, fun h => h⟩
theorem i_c (h : PI X tg iter (tI X.K Z W mi)) : PI X tg iter (tIC X.K Z W mi) := PI.weak h fun σ H R ⟨s, g, sr, e⟩ => ⟨s, g, sr, by
  cases q : mi s with
  | ok ds s' => rw [q] at e; exact fun J H' g' l sr' dw => e J H' g' l sr' dw.toC
  | exc x s' => rw [q] at e; exact e
  | bad => rw [q] at e; exact e⟩
/-- a list that a slot owns, read as it stands -/
def ownI (i : Nat) : M (List D) := fun s => match s.sl[i]? with
  | some (.own (.lst xs)) => .ok xs s
  | some (.bor (.lst xs)) => .ok xs s
  | _ => .bad
theorem dc_own {a : Addr} {vs : List V} {ds : List D} (e : H a = some (.lst vs)) (na : a ∉ g.as) (r : reps K g ds vs) : DC K g H (Itl K a) ds := by
  have kp : ∀ {g1 : Gh} {H1 : Hp}, Frm g H g1 H1 → H1 a = some (.lst vs) := fun f => f.keep a _ e na
  refine ⟨fun i g1 H1 f sm hi => ?_, fun g1 H1 f sm => ?_, fun {Z s g1 σ H1 i d x H'} f sr hd y => ?_⟩
  · have hi' : i < vs.length := by rw [reps_length r]; exact hi
    exact ⟨vs, vs[i], SqL.of (kp f), List.getElem?_eq_getElem hi'⟩
  · exact ⟨vs, SqL.of (kp f), by rw [reps_length r]; exact Nat.le_refl _⟩
  · obtain ⟨e1, e2⟩ := y
    subst e1
    obtain ⟨v, h1, h2⟩ := reps_get r hd
    rw [e2 vs (SqL.of (kp f))] at h1
    cases h1
    exact ⟨g1, Gle.refl _, sr, rep_mono f.le _ _ h2⟩
theorem i_own {i : Nat} {x : Str} {pos : Pos} (hN : X.N[i]? = some x := by rfl) (hv : Vis X.env.scope x := by first | exact Or.inl rfl | exact Or.inr (Or.inl rfl) | exact Or.inr (Or.inr rfl)) (hd : (x == ("__debug__" : Str)) = false := by decide) (hcd : (x == ("__classdict__" : Str)) = false := by decide) :
    PI X tg (.Name x pos) (tIC X.K Z W (ownI i)) :=
  PI.weak (pi_list (pe_var (pos := pos) hN hv hd hcd)) fun σ H R ⟨s, g, sr, e⟩ => by
    unfold ownI at e
    cases q : s.sl[i]? with
    | none => rw [q] at e; exact e.elim
    | some z =>
      rw [q] at e
      cases z with
      | own o =>
        cases o with
        | lst xs =>
          obtain ⟨a, h1, ⟨vs, h2, h3⟩, h4, h5, h6⟩ := sr.own i _ q
          exact ⟨.ref a, h1, a, rfl, ⟨vs, SqL.of h2⟩, e _ H g (Gle.refl _) sr (dc_own h2 h5 h3)⟩
        | _ => exact e.elim
      | bor o =>
        cases o with
        | lst xs =>
          obtain ⟨a, h1, ⟨vs, h2, h3⟩, h5, h6⟩ := sr.bor i _ q
          exact ⟨.ref a, h1, a, rfl, ⟨vs, SqL.of h2⟩, e _ H g (Gle.refl _) sr (dc_own h2 h5 h3)⟩
        | _ => exact e.elim
      | _ => exact e.elim
end
section
variable {K : PySem.W.Frag} {X : Cx} {Z : En} {W : WX} {g g' : Gh} {σ : St} {H : Hp} {s : S}
theorem tLcC_of {mi : M (List D)} {vs I : List Nat} {f : D → S → Option S} {t : M Bool} {e : M D} {tt : TT} {te : TE} {tg : TG} {Q : VK} (hI : ∀ i ∈ I, i ∈ vs)
    (hf : ∀ (Z' : En) v σ H Q, tG K Z' I f v σ H Q → tg v σ H Q) (ht : ∀ (Z' : En) σ H Q, tT K Z' W0 t σ H Q → tt σ H Q) (he : ∀ (Z' : En) σ H Q, tD K Z' W0 e σ H Q → te σ H Q)
    (h : tF K Z W (lcM mi vs f t e) σ H Q) : tLc (tIC K Z W mi) tg tt te vs σ H Q := by
  obtain ⟨s, g, sr, q⟩ := h
  refine ⟨s, g, sr, ?_⟩
  unfold lcM mb at q
  cases hm : mi s with
  | exc x s1 => rw [hm] at q; exact q
  | bad => rw [hm] at q; exact q
  | ok ds s1 =>
    rw [hm] at q
    simp only [R.bind_ok] at q
    intro J H1 g1 l1 sr1 dw D hD
    have gD1 : g1.G D = none := by
      cases z : g1.G D with
      | none => rfl
      | some x => have := sr1.gr.sub _ _ z; rw [hD] at this; cases this
    have aD1 : D ∉ g1.as := fun z => by
      obtain ⟨x, hx⟩ := sr1.gr.mem z
      rw [hD] at hx; cases hx
    -- the invariant
    refine ⟨fun i m H => m = ds.length - i ∧ i ≤ ds.length ∧ ∃ acc accV mu g2, H D = some (.lst accV) ∧ reps K g2 acc accV ∧ g2.G D = none ∧ D ∉ g2.as ∧ Frm g1 H1 g2 H ∧ GR K g2 H mu ∧
      FEnd K Z W g σ Q (match lcLoop (blkS s1.sl vs) f t e (ds.drop i) acc mu with
        | .ok xs s' => .ok (.lst xs) ⟨s1.sl, s'.mu⟩
        | _ => .bad), ⟨ds.length, by simp, Nat.zero_le _, [], [], s1.mu, g1, upd_same, rfl, gD1, aD1, (Frm.refl sr1.gr.sub).put hD, sr1.gr.put gD1 aD1, q⟩, ?_⟩
    rintro i m H2 ⟨rfl, hi, acc, accV, mu, g2, hacc, racc, gD, aD, fr, gr, fe⟩
    have nH1 : ∀ {Hx : Hp} {gx : Gh}, Frm g2 H2 gx Hx → Hx D = some (.lst accV) ∧ gx.G D = none ∧ D ∉ gx.as := fun {Hx gx} fx => by
      refine ⟨fx.keep D _ hacc aD, ?_, fun z => ?_⟩
      · cases z : gx.G D with
        | none => rfl
        | some x =>
          rcases fx.frz D (by rw [z]; simp) with y | y
          · exact absurd gD y
          · rw [y] at hacc; cases hacc
      · rcases fx.new D z with y | y
        · exact aD y
        · rw [y] at hacc; cases hacc
    by_cases hlt : i < ds.length
    · refine .inr ⟨dw.goes i g2 H2 fr gr.sub hlt, fun Hn => (i + 1 ≤ ds.length ∧ ∃ acc accV mu g2, Hn D = some (.lst accV) ∧ reps K g2 acc accV ∧ g2.G D = none ∧ D ∉ g2.as ∧ Frm g1 H1 g2 Hn ∧ GR K g2 Hn mu ∧
        FEnd K Z W g σ Q (match lcLoop (blkS s1.sl vs) f t e (ds.drop (i + 1)) acc mu with
          | .ok xs s' => .ok (.lst xs) ⟨s1.sl, s'.mu⟩
          | _ => .bad)), fun Hn hn => ⟨ds.length - (i + 1), by omega, rfl, hn⟩, fun x H3 y => ?_⟩
      have sb : SR K ⟨g2, H2, none⟩ ⟨blkS s1.sl vs, mu⟩ g2 (wipe σ vs) H2 := sr1.block fr gr
      obtain ⟨g3, l3, sr3, rp⟩ := dw.yields (Z := ⟨g2, H2, none⟩) fr sb (List.getElem?_eq_getElem hlt) y
      rw [List.drop_eq_getElem_cons hlt] at fe
      unfold lcLoop at fe
      cases hf1 : f ds[i] ⟨blkS s1.sl vs, mu⟩ with
      | none => simp only [hf1] at fe; exact fe.elim
      | some s4 =>
        simp only [hf1] at fe
        refine hf ⟨g2, H2, none⟩ x _ H3 _ ⟨_, g3, ds[i], sr3, rp, s4, hf1, fun σ4 H4 g4 l4 sr4 off => ⟨(off vs hI).trans (wipe_wipe σ vs), ht ⟨g2, H2, none⟩ _ _ _ ⟨s4, g4, sr4, ?_⟩⟩⟩
        cases hb : t s4 with
        | bad => simp only [hb] at fe; exact fe.elim
        | exc x s5 => simp only [hb] at fe; exact fe.elim
        | ok b s5 =>
          simp only [hb] at fe
          intro H5 g5 l5 sr5
          have f5 : Frm g2 H2 g5 H5 := sr5.fr
          cases b with
          | false =>
            rw [if_neg Bool.false_ne_true]
            obtain ⟨k1, k2, k3⟩ := nH1 f5
            exact ⟨hlt, acc, accV, s5.mu, g5, k1, reps_mono f5.le _ _ racc, k2, k3, fr.trans f5, sr5.gr, fe⟩
          | true =>
            rw [if_pos rfl]
            refine he ⟨g2, H2, none⟩ _ _ _ ⟨s5, g5, sr5, ?_⟩
            unfold mb at fe
            cases hx : e s5 with
            | bad => simp only [hx] at fe; exact fe.elim
            | exc x s6 => simp only [hx] at fe; exact fe.elim
            | ok d6 s6 =>
              simp only [hx, R.bind_ok] at fe
              intro v6 H6 g6 l6 sr6 r6
              cases hz : fz d6 s6 with
              | bad => simp only [hz] at fe; exact fe.elim
              | exc x s7 => exact (fz_noexc hz).elim
              | ok d7 s7 =>
                simp only [hz] at fe
                obtain ⟨g7, l7, sr7, r7⟩ := fz_ok sr6 r6 hz
                have f7 : Frm g2 H2 g7 H6 := sr7.fr
                obtain ⟨k1, k2, k3⟩ := nH1 f7
                by_cases hlen : acc.length < sizeLine
                · rw [if_pos hlen] at fe
                  refine ⟨accV, k1, by rw [reps_length racc]; exact hlen, hlt, acc ++ [d7], accV ++ [v6], s7.mu, g7, upd_same, reps_append (reps_mono f7.le _ _ racc) (reps_one r7), k2, k3, (fr.trans f7).put hD, sr7.gr.put k2 k3, fe⟩
                · rw [if_neg hlen] at fe
                  exact fe.elim
    · have ei : i = ds.length := by omega
      subst ei
      rw [List.drop_length] at fe
      refine .inl ⟨dw.stops g2 H2 fr gr.sub, ?_⟩
      have hup := upd_dropH hacc
      have fin := fe D (.lst accV) (dropH H2 D) g2 (l1.trans fr.le) (sr1.behind (fr.drop hD) (gr.drop gD aD)) dropH_same ⟨accV, rfl, racc⟩
      rw [hup] at fin
      exact fin
variable {tgt iter elt cond : Expr} {scope : Scope} {own : List (Str × Nat)} {pos p spos : Pos}
theorem f_lcC {mi : M (List D)} {I : List Nat} {f : D → S → Option S} {e : M D} (own : List (Str × Nat)) (hc : X.calm = true) (hN : X.N.Nodup) (hi : PI X tgt iter (tIC X.K Z W mi)) (ok : BlkOk X.N X.env.scope scope own) (hI : ∀ i ∈ I, i ∈ own.map (·.2))
    (hg : ∀ (s : Shared) (H : Hp) (C : Addr) (cl : List (Str × Addr)) (fp : List Addr) (Z' : En), PG (X.blk s H scope (compEnvC scope cl C X.env) fp) tgt (tG X.K Z' I f))
    (he : ∀ (s : Shared) (H : Hp) (C : Addr) (cl : List (Str × Addr)) (fp : List Addr) (Z' : En), PE (X.blk s H scope (compEnvC scope cl C X.env) fp) elt (tD X.K Z' W0 e))
    (hs : ∀ x, foldedSetIterable iter X.env x = pure x := by intro _; rfl) : PE X (.ListComp elt [⟨tgt, iter, [], 0⟩] scope pos) (tF X.K Z W (lcM mi (own.map (·.2)) f yesM e)) :=
  PE.weak (pe_lc (g := fun v σ H Q => ∃ Z', tG X.K Z' I f v σ H Q) (tt := tYes) (te := fun σ H Q => ∃ Z', tD X.K Z' W0 e σ H Q) hc hN hi ok
    (fun s H C cl fp => ⟨fun pins s1 σ H1 v u Q Iv r ⟨Z', q⟩ => (hg s H C cl fp Z').run pins s1 σ H1 v u Q Iv r q⟩) (fun _ _ _ _ _ => pts_nil)
    (fun s H C cl fp => ⟨fun pins s1 σ H1 Q Iv ⟨Z', q⟩ => (he s H C cl fp Z').run pins s1 σ H1 Q Iv q⟩) hs) fun σ H Q h =>
    tLcC_of (I := I) hI (fun Z' v σ H Q h => ⟨Z', h⟩) (fun Z' σ H Q ⟨s, g, sr, q⟩ => q H g (Gle.refl _) sr) (fun Z' σ H Q h => ⟨Z', h⟩) h
theorem f_lcIfC {mi : M (List D)} {I : List Nat} {f : D → S → Option S} {e : M D} {t : M Bool} (own : List (Str × Nat)) (hc : X.calm = true) (hN : X.N.Nodup) (hi : PI X tgt iter (tIC X.K Z W mi)) (ok : BlkOk X.N X.env.scope scope own) (hI : ∀ i ∈ I, i ∈ own.map (·.2))
    (hg : ∀ (s : Shared) (H : Hp) (C : Addr) (cl : List (Str × Addr)) (fp : List Addr) (Z' : En), PG (X.blk s H scope (compEnvC scope cl C X.env) fp) tgt (tG X.K Z' I f))
    (ht : ∀ (s : Shared) (H : Hp) (C : Addr) (cl : List (Str × Addr)) (fp : List Addr) (Z' : En), PT (X.blk s H scope (compEnvC scope cl C X.env) fp) cond (tT X.K Z' W0 t))
    (he : ∀ (s : Shared) (H : Hp) (C : Addr) (cl : List (Str × Addr)) (fp : List Addr) (Z' : En), PE (X.blk s H scope (compEnvC scope cl C X.env) fp) elt (tD X.K Z' W0 e))
    (hs : ∀ x, foldedSetIterable iter X.env x = pure x := by intro _; rfl) : PE X (.ListComp elt [⟨tgt, iter, [cond], 0⟩] scope pos) (tF X.K Z W (lcM mi (own.map (·.2)) f t e)) :=
  PE.weak (pe_lc (g := fun v σ H Q => ∃ Z', tG X.K Z' I f v σ H Q) (tt := fun σ H Q => ∃ Z', tT X.K Z' W0 t σ H Q) (te := fun σ H Q => ∃ Z', tD X.K Z' W0 e σ H Q) hc hN hi ok
    (fun s H C cl fp => ⟨fun pins s1 σ H1 v u Q Iv r ⟨Z', q⟩ => (hg s H C cl fp Z').run pins s1 σ H1 v u Q Iv r q⟩) (fun s H C cl fp => pts_one ⟨fun pins s1 σ H1 Q Iv ⟨Z', q⟩ => (ht s H C cl fp Z').run pins s1 σ H1 Q Iv q⟩)
    (fun s H C cl fp => ⟨fun pins s1 σ H1 Q Iv ⟨Z', q⟩ => (he s H C cl fp Z').run pins s1 σ H1 Q Iv q⟩) hs) fun σ H Q h =>
    tLcC_of (I := I) hI (fun Z' v σ H Q h => ⟨Z', h⟩) (fun Z' σ H Q h => ⟨Z', h⟩) (fun Z' σ H Q h => ⟨Z', h⟩) h
variable {y : Str} {py : Pos} {i : Nat}
theorem ps_lcC {mi : M (List D)} {I : List Nat} {f : D → S → Option S} {e : M D} (own : List (Str × Nat)) (hc : X.calm = true) (hN : X.N.Nodup) (hy : X.N[i]? = some y) (hyl : X.env.scope.names.lookup y = some .local)
    (hsw : swapsWith (.ListComp elt [⟨tgt, iter, [], 0⟩] scope pos) (some (.Name y py)) spos.line X.env = pure true) (hi : PI X tgt iter (tIC X.K Z W mi)) (ok : BlkOk X.N X.env.scope scope own) (hI : ∀ i ∈ I, i ∈ own.map (·.2))
    (hg : ∀ (s : Shared) (H : Hp) (C : Addr) (cl : List (Str × Addr)) (fp : List Addr) (Z' : En), PG (X.blk s H scope (compEnvC scope cl C X.env) fp) tgt (tG X.K Z' I f))
    (he : ∀ (s : Shared) (H : Hp) (C : Addr) (cl : List (Str × Addr)) (fp : List Addr) (Z' : En), PE (X.blk s H scope (compEnvC scope cl C X.env) fp) elt (tD X.K Z' W0 e))
    (hs : ∀ x, foldedSetIterable iter X.env x = pure x := by intro _; rfl) : ∃ t : TE, (∀ {σ H Q}, tF X.K Z W (lcM mi (own.map (·.2)) f yesM e) σ H Q → t σ H Q) ∧ PS X (.Assign [.Name y py] (.ListComp elt [⟨tgt, iter, [], 0⟩] scope pos) spos) (tAsg t (gName i)) :=
  ⟨_, fun {σ H Q} h => tLcC_of (I := I) hI (fun Z' v σ H Q h => ⟨Z', h⟩) (fun Z' σ H Q ⟨s, g, sr, q⟩ => q H g (Gle.refl _) sr) (fun Z' σ H Q h => ⟨Z', h⟩) h,
    ps_setLc (g := fun v σ H Q => ∃ Z', tG X.K Z' I f v σ H Q) (tt := tYes) (te := fun σ H Q => ∃ Z', tD X.K Z' W0 e σ H Q) hc hN hy hyl hsw hi ok
    (fun s H C cl fp => ⟨fun pins s1 σ H1 v u Q Iv r ⟨Z', q⟩ => (hg s H C cl fp Z').run pins s1 σ H1 v u Q Iv r q⟩) (fun _ _ _ _ _ => pts_nil)
    (fun s H C cl fp => ⟨fun pins s1 σ H1 Q Iv ⟨Z', q⟩ => (he s H C cl fp Z').run pins s1 σ H1 Q Iv q⟩) hs⟩
theorem ps_lcIfC {mi : M (List D)} {I : List Nat} {f : D → S → Option S} {e : M D} {t : M Bool} (own : List (Str × Nat)) (hc : X.calm = true) (hN : X.N.Nodup) (hy : X.N[i]? = some y) (hyl : X.env.scope.names.lookup y = some .local)
    (hsw : swapsWith (.ListComp elt [⟨tgt, iter, [cond], 0⟩] scope pos) (some (.Name y py)) spos.line X.env = pure true) (hi : PI X tgt iter (tIC X.K Z W mi)) (ok : BlkOk X.N X.env.scope scope own) (hI : ∀ i ∈ I, i ∈ own.map (·.2))
    (hg : ∀ (s : Shared) (H : Hp) (C : Addr) (cl : List (Str × Addr)) (fp : List Addr) (Z' : En), PG (X.blk s H scope (compEnvC scope cl C X.env) fp) tgt (tG X.K Z' I f))
    (ht : ∀ (s : Shared) (H : Hp) (C : Addr) (cl : List (Str × Addr)) (fp : List Addr) (Z' : En), PT (X.blk s H scope (compEnvC scope cl C X.env) fp) cond (tT X.K Z' W0 t))
    (he : ∀ (s : Shared) (H : Hp) (C : Addr) (cl : List (Str × Addr)) (fp : List Addr) (Z' : En), PE (X.blk s H scope (compEnvC scope cl C X.env) fp) elt (tD X.K Z' W0 e))
    (hs : ∀ x, foldedSetIterable iter X.env x = pure x := by intro _; rfl) : ∃ t' : TE, (∀ {σ H Q}, tF X.K Z W (lcM mi (own.map (·.2)) f t e) σ H Q → t' σ H Q) ∧ PS X (.Assign [.Name y py] (.ListComp elt [⟨tgt, iter, [cond], 0⟩] scope pos) spos) (tAsg t' (gName i)) :=
  ⟨_, fun {σ H Q} h => tLcC_of (I := I) hI (fun Z' v σ H Q h => ⟨Z', h⟩) (fun Z' σ H Q h => ⟨Z', h⟩) (fun Z' σ H Q h => ⟨Z', h⟩) h,
    ps_setLc (g := fun v σ H Q => ∃ Z', tG X.K Z' I f v σ H Q) (tt := fun σ H Q => ∃ Z', tT X.K Z' W0 t σ H Q) (te := fun σ H Q => ∃ Z', tD X.K Z' W0 e σ H Q) hc hN hy hyl hsw hi ok
    (fun s H C cl fp => ⟨fun pins s1 σ H1 v u Q Iv r ⟨Z', q⟩ => (hg s H C cl fp Z').run pins s1 σ H1 v u Q Iv r q⟩) (fun s H C cl fp => pts_one ⟨fun pins s1 σ H1 Q Iv ⟨Z', q⟩ => (ht s H C cl fp Z').run pins s1 σ H1 Q Iv q⟩)
    (fun s H C cl fp => ⟨fun pins s1 σ H1 Q Iv ⟨Z', q⟩ => (he s H C cl fp Z').run pins s1 σ H1 Q Iv q⟩) hs⟩

@[simp] theorem x_ownI (i : Nat) (s : S) : ownI i s = match s.sl[i]? with | some (.own (.lst xs)) => .ok xs s | some (.bor (.lst xs)) => .ok xs s | _ => .bad := rfl
end
end DL
end
section -- DZ
set_option Elab.async false
set_option linter.all false
set_option maxRecDepth 100000
namespace DL
open PySem PySem.Spec L2

/-! ### lists of texts -/
/-- a text of the model's signs -/
def okT (x : List Nat) : Bool := x.all (· < 0x110000)
theorem okPys_strs {xs : List (List Nat)} {n : Nat} (h : ∀ x ∈ xs, okT x = true) : okPys (xs.map D.str) n = true := okPys_map fun x hx => h x hx
theorem deq_str (x y : List Nat) : deq (.str x) (.str y) = decide (x = y) := by
  show (sx x == sx y) = _
  by_cases h : x = y
  · subst h; simp
  · rw [decide_eq_false h]
    exact beq_eq_false_iff_ne.mpr fun z => h (sx_inj z)
theorem eqvs_strs : ∀ xs ys : List (List Nat), PyData.eqv (.list (toPys (xs.map D.str))) (.list (toPys (ys.map D.str))) = decide (xs = ys)
  | [], [] => by rw [decide_eq_true rfl]; rfl
  | [], y :: ys => by rw [decide_eq_false (by simp)]; rfl
  | x :: xs, [] => by rw [decide_eq_false (by simp)]; rfl
  | x :: xs, y :: ys => by
    have e1 := deq_str x y
    have e2 := eqvs_strs xs ys
    have : PyData.eqv (.list (toPys ((x :: xs).map D.str))) (.list (toPys ((y :: ys).map D.str))) = (PyData.eqv (.str (sx x)) (.str (sx y)) && PyData.eqv (.list (toPys (xs.map D.str))) (.list (toPys (ys.map D.str)))) := by
      show PyData.eqv (.list (.str (sx x) :: toPys (xs.map D.str))) (.list (.str (sx y) :: toPys (ys.map D.str))) = _
      simp [PyData.eqv, PyData.eqvAll]
    rw [this, e2]
    have e3 : PyData.eqv (.str (sx x)) (.str (sx y)) = decide (x = y) := e1
    rw [e3]
    by_cases h1 : x = y <;> by_cases h2 : xs = ys <;> simp [h1, h2]
theorem deq_strs (xs ys : List (List Nat)) : deq (.lst (xs.map .str)) (.lst (ys.map .str)) = decide (xs = ys) := eqvs_strs xs ys
theorem eq_strs {s : S} {xs ys : List (List Nat)} (h : ∀ x ∈ xs, okT x = true) (k : ∀ x ∈ ys, okT x = true) : eqD s (.lst (xs.map .str)) (.lst (ys.map .str)) = some (.bl (decide (xs = ys))) := by
  unfold eqD
  show deepD false s (.lst (xs.map .str)) (.lst (ys.map .str)) = _
  unfold deepD
  simp only [x_dd_lst]
  rw [if_pos ⟨by show okPys (xs.map D.str) 59 = true; exact okPys_strs h, by show okPys (ys.map D.str) 59 = true; exact okPys_strs k⟩, deq_strs]
  rfl
theorem eq_strs1 {s : S} {xs : List (List Nat)} {y : List Nat} (h : ∀ x ∈ xs, okT x = true) (k : okT y = true) : eqD s (.lst (xs.map .str)) (.lst [.str y]) = some (.bl (decide (xs = [y]))) :=
  eq_strs (ys := [y]) h (by simpa using k)
theorem in_strs_tup {s : S} {neg : Bool} {xs : List (List Nat)} {yss : List (List (List Nat))} (h : ∀ x ∈ xs, okT x = true) (k : ∀ ys ∈ yss, ∀ y ∈ ys, okT y = true) :
    inA neg s (.lst (xs.map .str)) (.tup (yss.map fun ys => .lst (ys.map .str))) = some (.bl (if neg then !decide (xs ∈ yss) else decide (xs ∈ yss))) := by
  have e0 : inD neg s (.lst (xs.map .str)) (.tup (yss.map fun ys => .lst (ys.map .str))) = none := by
    unfold inD
    simp only [x_rdS, x_dd_tup, x_dd_lst]
    rw [if_neg (by intro z; cases z.1)]
  unfold inA
  rw [e0]
  show inTD neg s _ _ = _
  unfold inTD
  simp only [x_dd_lst, x_dd_tup]
  rw [if_pos]
  · have : (yss.map fun ys => D.lst (ys.map .str)).any (fun y => deq y (.lst (xs.map .str))) = decide (xs ∈ yss) := by
      clear e0 k
      induction yss with
      | nil => simp
      | cons y ys ih =>
        rw [List.map_cons, List.any_cons, ih, deq_strs]
        by_cases h1 : y = xs
        · subst h1; simp
        · have : ¬ xs = y := fun z => h1 z.symm
          simp [h1, this]
    rw [this]
  · refine ⟨by show okPys (xs.map D.str) 57 = true; exact okPys_strs h, ?_⟩
    show okPys (yss.map fun ys => D.lst (ys.map .str)) 59 = true
    exact okPys_map fun ys hys => by
      show okPys (ys.map D.str) 58 = true
      exact okPys_strs (k ys hys)
/-! ### a sign in a text -/
theorem sub_one (c : Nat) (y : List Nat) : subIn [c] y = decide (c ∈ y) := StrLaws.found_one (sx y) c
@[simp] theorem in_sign {s : S} (c : Nat) (y : List Nat) : inA false s (.str [c]) (.str y) = some (.bl (decide (c ∈ y))) := by
  show some (D.bl (subIn [c] y)) = _
  rw [sub_one]
@[simp] theorem nin_sign {s : S} (c : Nat) (y : List Nat) : inA true s (.str [c]) (.str y) = some (.bl (!decide (c ∈ y))) := by
  show some (D.bl (!subIn [c] y)) = _
  rw [sub_one]
/-! ### split -/
theorem split_any {s : S} {x y : List Nat} (hy : y ≠ []) (hk : y.all (· < 256) = true) (hl : x.length + 2 ≤ sizeLine) : splitD s x (.str y) = some (.lst ((TL.spl y 0 [] x).map D.str)) := by
  show (if y ≠ [] ∧ x.length + 2 ≤ sizeLine then some (D.lst ((Txt.split (sx x) (sx y)).map unS)) else none) = _
  rw [if_pos ⟨hy, hl⟩]
  have e : Txt.split (sx x) (sx y) = (TL.spl y 0 [] x).map sx := SX.split_S hy hk
  rw [e, List.map_map]
  rfl
theorem split_one {s : S} {c : Nat} {ps : List (List Nat)} (hc : c < 256) (hn : ps ≠ []) (hp : ∀ p ∈ ps, c ∉ p) (hl : (TL.joinL [c] ps).length + 2 ≤ sizeLine) : splitD s (TL.joinL [c] ps) (.str [c]) = some (.lst (ps.map D.str)) := by
  rw [split_any (by simp) (by simpa using hc) hl, TL.spl_join hn hp]
theorem joinL_len (z : List Nat) : ∀ ys : List (List Nat), (TL.joinL z ys).length ≤ (ys.map (·.length)).sum + ys.length * z.length
  | [] => by simp [TL.joinL]
  | [y] => by simp [TL.joinL]
  | y :: w :: ys => by
    have := joinL_len z (w :: ys)
    simp only [TL.joinL, List.length_append, List.map_cons, List.sum_cons, List.length_cons, Nat.add_mul, Nat.one_mul] at this ⊢
    omega
theorem sum_le {ys : List (List Nat)} {b : Nat} (h : ∀ y ∈ ys, y.length ≤ b) : (ys.map (·.length)).sum ≤ ys.length * b := by
  induction ys with
  | nil => simp
  | cons y ys ih =>
    have h1 := h y (by simp)
    have h2 := ih fun z hz => h z (by simp [hz])
    simp only [List.map_cons, List.sum_cons, List.length_cons, Nat.add_mul, Nat.one_mul]
    omega
/-! ### loops by an invariant -/
theorem loop_inv {f : D → S → Option S} {b : M Fl} (I : Nat → S → Prop) : ∀ (ds : List D) (n : Nat) (s : S), I n s →
    (∀ k d s, ds[k]? = some d → I (n + k) s → ∃ s1 s2, f d s = some s1 ∧ (b s1 = .ok .nx s2 ∨ b s1 = .ok .ct s2) ∧ I (n + k + 1) s2) →
    ∃ s', loopD f b ds s = .ok .nx s' ∧ I (n + ds.length) s'
  | [], n, s, h, _ => ⟨s, rfl, h⟩
  | d :: ds, n, s, h, st => by
    obtain ⟨s1, s2, h1, h2, h3⟩ := st 0 d s rfl h
    obtain ⟨s', e, hi⟩ := loop_inv I ds (n + 1) s2 h3 fun k d s hk hI => by
      have := st (k + 1) d s (by simpa using hk) (by rw [show n + (k + 1) = n + 1 + k by omega]; exact hI)
      rw [show n + (k + 1) + 1 = n + 1 + k + 1 by omega] at this
      exact this
    refine ⟨s', ?_, by rw [List.length_cons, show n + (ds.length + 1) = n + 1 + ds.length by omega]; exact hi⟩
    rw [x_loop_cons, h1]
    simp only
    rcases h2 with h2 | h2
    · rw [h2]; exact e
    · rw [h2]; exact e
/-! ### dicts -/
/-- d[k] = z, its end -/
def ixE (x j z : D) (s : S) : R Fl := match ow s x, toKey j with
  | some (.dct kvs), some k => if kvs.length < sizeLine then .ok .nx (putO s x (.dct (putK' kvs k z))) else .bad
  | _, _ => .bad
@[simp] theorem x_ixS (mo' mi mv : M D) (s : S) : ixS mo' mi mv s = (mv s).bind fun y s => (mo' s).bind fun x s => (mi s).bind fun j s => (fz y s).bind fun z s => ixE x j z s := rfl
theorem ixE_loc {s : S} {i : Nat} {kvs : List (Key × D)} {k : List Nat} {z : D} (h : s.sl[i]? = some (.own (.dct kvs))) (hl : kvs.length < sizeLine) : ixE (.loc i) (.str k) z s = .ok .nx { s with sl := s.sl.set i (.own (.dct (putK' kvs (.inr (sx k)) z))) } := by
  unfold ixE ow
  simp only [h, toKey]
  rw [if_pos hl]
  rfl
/-! ### fields -/
def fldE (C : Addr) (f : Str) (z x : D) (s : S) : R Fl := match ow s x with
  | some (.obj C' fs) => if C' = C ∧ fs.length < 1000 then .ok .nx (putO s x (.obj C' (putD f z fs))) else .bad
  | _ => .bad
@[simp] theorem x_fldS (C : Addr) (f : Str) (mo' mv : M D) (s : S) : fldS C f mo' mv s = (mv s).bind fun y s => (mo' s).bind fun x s => (fz y s).bind fun z s => fldE C f z x s := rfl
@[simp] theorem x_fldE (C : Addr) (f : Str) (z : D) (i : Nat) (s : S) : fldE C f z (.loc i) s = match s.sl[i]? with | some (.own (.obj C' fs)) => if C' = C ∧ fs.length < 1000 then .ok .nx { s with sl := s.sl.set i (.own (.obj C' (putD f z fs))) } else .bad | _ => .bad := by
  unfold fldE ow
  simp only
  cases s.sl[i]? with
  | none => rfl
  | some y =>
    cases y with
    | own o => cases o <;> rfl
    | _ => rfl
end DL
end
section -- EA
set_option Elab.async false
set_option linter.all false
set_option maxRecDepth 100000
set_option maxHeartbeats 1000000
namespace DL
open PySem PySem.Spec L2
/-! ### generator defs that hand out nothing -/
inductive RN where
  | ok (mu : List Own) | bad
abbrev FN := List D → List Own → RN
def runN (n : Nat) (m : M Fl) : FN := fun ds mu => match m ⟨begS n ds, mu⟩ with
  | .ok .nx s => .ok s.mu
  | _ => .bad
def spN (K : PySem.W.Frag) (n : Nat) (F : FN) : SpG := fun vs H Q _ => vs.length = n ∧ ∃ g ds mu, DL.GR K g H mu ∧ reps K g ds vs ∧ match F ds mu with
  | .ok mu' => ∀ H' g', Frm g H g' H' → DL.GR K g' H' mu' → Q [] H'
  | .bad => False
section
variable {P : Program} {w : World} {K : PySem.W.Frag} {mg : Str → Option Value} {base : Heap}
theorem fnN {x qual : Str} {st : Stmt} {f : Addr} {fd : FuncData} {N ps : List Str} {k : Nat} {n : Nat} {m : M Fl} (Fn : Fun K x qual st f fd) (Sc : GScope N ps (defScope st)) (hn : ps.length = n) (hN : n ≤ N.length)
    (hbody : ∀ (cdv : Value) (A : Around) (outer : List Env) (s : Shared) (H : Hp) (E : XK) (pn : List (Addr × Obj)) (Z : En), Ok (gcxOf P w K mg base N qual (defScope st) f cdv A outer s H E pn) (fun cls d _ H => E cls d H) k →
      PSs (gcxOf P w K mg base N qual (defScope st) f cdv A outer s H E pn) (defBody st) (tS K Z (fun cls d _ H => E cls d H) m)) : GFn P w K mg base (k + 1) f fd ps (spN K n (runN N.length m)) := by
  subst hn
  obtain ⟨oc, od, kV, doc, pm, an, cdv, ct, osl, rfl, lk, hcd⟩ := Fn.ex
  refine gfn_of lk hcd Sc (fun vs H Q E h => h.1) fun A outer s H vs Q E pn hr h => ?_
  obtain ⟨hl, g, ds, mu, gr, r, h⟩ := h
  have hds : ds.length = ps.length := by rw [← reps_length r]; exact hl
  have ok : Ok (gcxOf P w K mg base N qual (defScope st) f cdv A outer s H E pn) (fun cls d _ H => E cls d H) k := ⟨rfl, Sc.nd, hr, takes_gcx, owns_gcx⟩
  refine ⟨_, gss_pss (hbody cdv A outer s H E pn ⟨g, H, none⟩ ok), ⟨begS N.length ds, mu⟩, g, SR.entry gr r (by omega), ?_⟩
  unfold runN at h
  cases q : m ⟨begS N.length ds, mu⟩ with
  | bad => rw [q] at h; exact h.elim
  | exc y s1 => rw [q] at h; exact h.elim
  | ok fl s1 =>
    rw [q] at h
    cases fl with
    | nx => exact fun σ H' g' le sr => h H' g' sr.fr sr.gr
    | rt d => exact h.elim
    | bk => exact h.elim
    | ct => exact h.elim
end
/-- list(o.m(..)) of such a method -/
def listN (C : Addr) (m : Str) (n : Nat) (F : FN) (mo : M D) (ma : M (List D)) : M Own := mb mo fun x => mb (objM C m x) fun _ => mb ma fun ds => mb (fzs (x :: ds)) fun xs => mb (lenM n xs) fun ys => fun s => match F ys s.mu with
  | .ok mu => .ok (.lst []) { s with mu := mu }
  | .bad => .bad
section
variable {X : Cx} {Z : En} {W : WX} {k : Nat} {f C : Addr} {fd : FuncData} {ps : List Str} {m nm : Str} {p pos pos2 apos : Pos} {o e : Expr} {es : List Expr} {mo : M D} {ma : M (List D)} {F : FN} {n : Nat}
theorem f_listN {pl : Sem Bool} (ok : Ok X W (k + 3)) (he : PE X o (tD X.K Z W mo)) (c : Cls X.K C) (hm : Meth X.K C m f) (G : GFn X.prog X.w X.K X.mg X.base k f fd ps (spN X.K n F)) (hb : Binds X.K fd ps []) (ha : PA X (e :: es) (tA X.K Z W ma))
    (hg : Gl X nm) (hmg : X.mg nm = none) (hv : bootBuiltins nm = some (.type "list")) (hnm : nm ≠ "__name__" := by decide) (hdb : (nm == ("__debug__" : Str)) = false := by decide)
    (hst : starEach (e :: es) X.env = (false, eval e X.env) :: starEach es X.env := by rfl) (hpl : (backTo pos (starEach es X.env)).any (·.1) = false := by rfl)
    (ht : eval (.Call (.Attribute o m apos) (e :: es) [] pos) X.env = (do
      let ov ← eval o X.env
      standAt apos.atName
      let (f, first) ← holding [ov] (getMethod ov m pl)
      callWith pos f first (backTo pos (starEach (e :: es) X.env)) (backToKw pos (keywordEach [] X.env))) := by rfl)
    (hs2 : starEach [.Call (.Attribute o m apos) (e :: es) [] pos] X.env = (false, eval (.Call (.Attribute o m apos) (e :: es) [] pos) X.env) :: starEach [] X.env := by rfl) :
    PE X (.Call (.Name nm p) [.Call (.Attribute o m apos) (e :: es) [] pos] [] pos2) (tF X.K Z W (listN C m n F mo ma)) := by
  have G1 := pgen_meth (E := fun _ _ _ => False) he c hm G (ok.room.mono (by omega)) hb (dvs := []) .nil ha hst hpl ht
  have L := pe_listG (pos := pos2) (p := p) (nm := nm) G1 (fun pins σ H s e s' I h => by
    obtain ⟨_, _, _, _, _, _, _, _, _, _, _, _, z⟩ := h
    exact z.elim) (fun _ _ _ z => z.elim) ok.room hg hmg hv hnm hdb hs2
  refine PE.weak L fun σ H Q ⟨s, g, sr, q⟩ => ?_
  refine goD isF sr q fun d1 s1 v1 H1 g1 l1 sr1 r1 e1 => ?_
  obtain ⟨a, dx, fs, rfl, h2, h3, e2⟩ := objM_end isF sr1 r1 e1
  refine ⟨a, dx, fs, rfl, h2, h3, goA isF sr1 e2 fun ds s2 vs H2 g2 l2 sr2 r2 e3 => ?_⟩
  obtain ⟨g3, xs, s3, l3, sr3, r3, e4⟩ := fzs_end isF sr2 (ds := d1 :: ds) (vs := .ref a :: vs) ⟨_, vs, rfl, repL_mono l2 r1, r2⟩ e3
  obtain ⟨hn, e5⟩ := lenM_end isF e4
  refine ⟨by rw [List.append_nil, reps_length r3]; exact hn, g3, xs, s3.mu, sr3.gr, by rw [List.append_nil]; exact r3, ?_⟩
  cases qf : F xs s3.mu with
  | bad => rw [qf] at e5; exact e5
  | ok mu' =>
    rw [qf] at e5
    intro H' g' fr gr p hp
    exact e5 p (.lst []) H' g' fr.le (sr3.behind fr gr) hp ⟨[], rfl, rfl⟩
end
end DL
end
section -- EB
set_option Elab.async false
set_option linter.all false
set_option maxRecDepth 100000
set_option maxHeartbeats 1000000
namespace DL
open PySem PySem.Spec L2
/-! ### the type tuple as a value; isinstance(x, tuple) -/
section
variable {X : Cx} {Z : En} {W : WX} {x : Str} {n : String} {pos : Pos}
theorem d_ty (hg : Gl X x) (hm : X.mg x = none) (hv : bootBuiltins x = some (.type n)) (hn : x ≠ "__name__" := by decide) (hd : (x == ("__debug__" : Str)) = false := by decide) : PE X (.Name x pos) (tD X.K Z W (mret (.ty n))) :=
  PE.weak (pe_bltn (v := .ty n) hg hm hv rfl hn hd) fun σ H Q ⟨s, g, sr, e⟩ => e (.ty n) H g (Gle.refl _) sr rfl
end
theorem SqT.ty {K : PySem.W.Frag} {H : Hp} {a : Addr} {xs : List V} (h : SqT K H a xs) : TyX K H (.ref a) (.type "tuple") := by
  rcases h with (h | ⟨o, h⟩) | ⟨o, its, n, h1, h2, _⟩
  · exact .base (.tup h)
  · exact .fTuple h
  · exact .kTuple h1 h2
/-- isinstance(x, tuple), x a tuple -/
def isiT (s : S) (ds : List D) : Option D := match ds with
  | [d, .ty n] => if n = "tuple" then (match dd s d with | some (.tup _) => some (.bl true) | _ => none) else none
  | _ => none
theorem cd_isiT {K : PySem.W.Frag} : CalD K (rIsi K) isiT := by
  intro Z s g σ H ds vs d Q sr rp e q
  unfold isiT at e
  split at e
  · rename_i d1 n
    split at e
    · rename_i hn
      subst hn
      obtain ⟨v1, r1, rfl, h1, v2, r2, rfl, h2, h3⟩ := rp
      cases h3
      have e2 : v2 = .ty "tuple" := h2
      subst e2
      split at e
      · rename_i xs hd
        cases e
        obtain ⟨a, us, rfl, h4, _⟩ := dd_rd sr h1 hd
        exact ⟨.ref a, .ty "tuple", .type "tuple", .type "tuple", true, rfl, .ty _, SqT.ty (SqT.mono sr.gr.sub h4), if_pos (beq_self_eq_true _), q _ H g (Gle.refl _) sr rfl⟩
      · cases e
    · cases e
  · cases e
/-! ### a name for a new object that is shared from then on -/
def setSh (i : Nat) (mo : M Own) : M Fl := mb mo fun o => fun s => .ok .nx ⟨s.sl.set i (.dat (.shr s.mu.length)), s.mu ++ [o]⟩
@[simp] theorem x_setSh (i : Nat) (m : M Own) (s : S) : setSh i m s = (m s).bind fun o s => .ok .nx ⟨s.sl.set i (.dat (.shr s.mu.length)), s.mu ++ [o]⟩ := rfl
section
variable {X : Cx} {Z : En} {W : WX} {e : Expr} {mo : M Own} {pos pos' : Pos}
theorem s_setSh {i : Nat} {x : Str} (hN : X.N.Nodup) (hi : X.N[i]? = some x) (hx : Loc X.env.scope x) (he : PE X e (tF X.K Z W mo)) (hs : swapsWith e (some (.Name x pos')) pos.line X.env = pure false := by rfl) (hf : X.fn x = true ∨ X.env.scope.names.lookup x = some .local := by first | exact .inl rfl | exact .inr rfl | assumption) :
    PS X (.Assign [.Name x pos'] e pos) (tS X.K Z W (setSh i mo)) :=
  PS.weak (ps_set hN hi hx he hs hf) fun D σ H ⟨s, g, sr, q⟩ => by
    refine ⟨s, g, sr, ?_⟩
    unfold setSh mb at q
    cases hq : mo s with
    | bad => rw [hq] at q; exact q
    | exc x s' => rw [hq] at q; exact q σ
    | ok o s' =>
      rw [hq] at q
      intro p u H' g' le sr' n r
      obtain ⟨l2, sr2, rp⟩ := sr'.share n r
      exact q _ _ _ (le.trans l2) (sr2.set rp)
end
end DL
end
section -- SX
set_option Elab.async false
set_option linter.all false
set_option maxRecDepth 100000
set_option maxHeartbeats 2000000
/-! An own error whose __init__ says super().__init__(message) and keeps none or one field. -/
namespace PySem
namespace SupX
open PySem.W PySem.Calls PyProof.Rows PySem.HandSPX
abbrev veT : List Value := [.type "ValueError", .type "Exception", .type "BaseException", .type "object"]
/-- the first statement of __init__ -/
abbrev supSt (msg : Expr) (p1 p2 p3 p4 p5 : Pos) : Stmt := .Expr (.Call (.Attribute (.Call (.Name "super" p1) [] [] p2) "__init__" p3) [msg] [] p4) p5
abbrev stoSt (f : Str) (p1 p2 p3 p4 : Pos) : Stmt := .Assign [.Attribute (.Name "self" p1) f p2] (.Name f p3) p4
/-- the message is a text, whatever stands around -/
def Msg (prog : Program) (w : World) (scope : Scope) (msg : Expr) (p : Str) (v : Value) : Prop :=
  ∀ (A : Around) (E : Value → Shared → Prop) (s : Shared) (q : Str) (L a cc : Addr) (cd : Value) (m : Str → Option Value) (Q : Value → Shared → Prop), s.heap.Ns L m → m p = some v →
    (∀ u t tk, Q (.str u t) { s with toks := tk }) → wpAny (model prog w) A (eval msg (ksEnv q scope L a cd cc)) Q E s
section
variable {prog : Program} {w : World} {scope : Scope}
theorem ldX {M : Model} {A : Around} {E : Value → Shared → Prop} {s : Shared} {q : Str} {L a cc : Addr} {cd : Value} {m : Str → Option Value} {x : Str} {pos : Pos} {v : Value} {Q : Value → Shared → Prop} (hn : s.heap.Ns L m) (hv : m x = some v) (h : Q v s)
    (hk : scope.kind = .function) (hl : scope.names.lookup x = some .local) (hd : (x == ("__debug__" : Str)) = false) :
    wpAny M A (eval (.Name x pos) (ksEnv q scope L a cd cc)) Q E s := wpAny_Name (wpAny_loadName_local hk hl hn hv h) hd
theorem msg_str {u : Str} {j pos} {p : Str} {v : Value} : Msg prog w scope (.Constant (.str u) j pos) p v := fun A E s q L a cc cd m Q hn hm k => Calls.Constant_str (k _ _ _)
theorem fits3 {a b : Str} {i : Int} (h : i.natAbs.log2 < 1920) (ha : a.length ≤ 1000) (hb : b.length ≤ 1000) : ((Str.empty ++ a).length ≤ sizeLine ∧ (Str.empty ++ a ++ (Str.ofString (toString i))).length ≤ sizeLine) ∧ (Str.empty ++ a ++ (Str.ofString (toString i)) ++ b).length ≤ sizeLine := by
  have l := int_text_len_1921 h
  have e : ∀ x y : Str, (x ++ y).length = x.length + y.length := fun x y => by first | exact Str.length_append x y | (show (x.cps ++ y.cps).size = _; exact Array.size_append)
  have z : (Str.empty : Str).length = 0 := rfl
  refine ⟨⟨?_, ?_⟩, ?_⟩ <;> simp only [e, z, sizeLine_eq] <;> omega
/-- f'a{p}b' -/
theorem msg_abc {a b : Str} {i : Int} {t : Tok} {p : Str} {j1 j2 : Nat} {q1 q2 q3 q4 q5 : Pos} (hi : i.natAbs.log2 < 1920) (ha : a.length ≤ 1000) (hb : b.length ≤ 1000) (hk : scope.kind = .function) (hl : scope.names.lookup p = some .local) (hd : (p == ("__debug__" : Str)) = false) :
    Msg prog w scope (.JoinedStr [.Constant (.str a) j1 q1, .FormattedValue (.Name p q2) (-1) none q3, .Constant (.str b) j2 q4] q5) p (.int i t) := by
  intro A E s q L f cc cd m Q hn hm k
  obtain ⟨⟨f1, f2⟩, f3⟩ := fits3 hi ha hb
  refine wpAny_JoinedStr ?_
  refine Calls.Constant_str ⟨a, _, rfl, f1, ?_⟩
  refine wpAny_FormattedValue_plain (ldX (s := { s with toks := s.toks + 1 }) hn hm ?_ hk hl hd)
  refine wpAny_formatField_int hi ⟨_, _, rfl, f2, ?_⟩
  refine Calls.Constant_str ⟨b, _, rfl, f3, ?_⟩
  exact ⟨f3, k _ _ _⟩
/-- f'a{p}' -/
theorem msg_ab {a : Str} {i : Int} {t : Tok} {p : Str} {j1 : Nat} {q1 q2 q3 q5 : Pos} (hi : i.natAbs.log2 < 1920) (ha : a.length ≤ 1000) (hk : scope.kind = .function) (hl : scope.names.lookup p = some .local) (hd : (p == ("__debug__" : Str)) = false) :
    Msg prog w scope (.JoinedStr [.Constant (.str a) j1 q1, .FormattedValue (.Name p q2) (-1) none q3] q5) p (.int i t) := by
  intro A E s q L f cc cd m Q hn hm k
  obtain ⟨⟨f1, f2⟩, f3⟩ := fits3 (b := Str.empty) hi ha (by decide)
  refine wpAny_JoinedStr ?_
  refine Calls.Constant_str ⟨a, _, rfl, f1, ?_⟩
  refine wpAny_FormattedValue_plain (ldX (s := { s with toks := s.toks + 1 }) hn hm ?_ hk hl hd)
  refine wpAny_formatField_int hi ⟨_, _, rfl, f2, ?_⟩
  exact ⟨f2, k _ _ _⟩
end
/-- what the written part says of a class C, of its __init__ at fI (code at cda, cell at cc) -/
structure ErrTxt (prog : Program) (K : Frag) (C fI cda cc : Addr) (qual : Str) (params : Arguments) (body : List Stmt) (scope : Scope) : Prop where
  cls : ∃ nm q N bs bm sn sub ab col dd k0 k1 k2 k3 k5, K.lookup C = some (excClassObj nm q C N bs bm true sn sub ab col dd k0 k1 k2 k3 k5 "ValueError.__new__") ∧ refsVE bm = true
  exI : excInitIn K C veT "ValueError.__new__" = true
  sa : findIn K (.ref C) "__setattr__" = some (some (.builtin "object.__setattr__"))
  ga : findIn K (.ref C) "__getattribute__" = some (some (.builtin "BaseException.__getattribute__"))
  gg : findIn K (.ref C) "__getattr__" = some none
  iC : findIn K (.ref C) "__init__" = some (some (.ref fI))
  tC : typeIn K (.ref fI) = some (.type "function")
  kC : keepIn K (.ref C) = true
  exC : subIn K (.ref C) (.type "BaseException") = some true
  ve : subIn K (.ref C) (.type "ValueError") = some true
  tyC : typeIn K (.ref C) = some (.type "type")
  hdC : hasDictIn K C = true
  me : mroIn K C (.ref C) = some true
  any : nsIn K cStatics "thirdparty.any" = some none
  si : ks_superIn K C C "__init__" = some (some (.builtin "ValueError.__init__"))
  nos : nsIn K mainGlobals "super" = some none
  top : (prog.main.scope.names.lookup ("super" : Str)).isSome = false
  fn : ∃ (oc : Value) (od : Option Addr) (kV doc pm ct : Value) (an : Option Addr) (osl : Array (Option Value)), K.lookup fI = some ⟨oc, od, .func (ksFn "__init__" qual params body scope .none kV doc pm an (.ref cda) ct cc), osl⟩ ∧ codeIn K (.ref cda) qual = true
  cell : ∃ (cl : Value) (cld : Option Addr) (csl : Array (Option Value)), K.lookup cc = some ⟨cl, cld, .cell (some (.ref C)), csl⟩
  code : ∃ (cl : Value) (cdd : Option Addr) (vs : Array Value) (csl : Array (Option Value)) (file : Str) (tf : Tok), K.lookup cda = some ⟨cl, cdd, .fields vs, csl⟩ ∧ vs[2]? = some (.str file tf) ∧ ((prog.main.file : Str) == file) = true
/-- the form of such a text -/
structure ErrScope (params : Arguments) (scope : Scope) : Prop where
  hp : ∃ ar, (params.posonlyargs ++ params.args).head? = some ar ∧ ar.arg = "self"
  hk : scope.kind = .function
  hs : scope.names.lookup ("self" : Str) = some .local
  hc : scope.names.lookup ("__class__" : Str) = some .free
  hsup : scope.names.lookup ("super" : Str) = some .globalImplicit
  cell : ∀ x ∈ scope.names, x.2 ≠ .cell
  co : scope.isCoroutine = false
  gen : scope.isGenerator = false
/-- how the first statement is read -/
structure SupForm (scope : Scope) (msg : Expr) (p1 p2 p3 p4 p5 : Pos) : Prop where
  hi : ∀ (q : Str) (L a cc : Addr) (cd : Value), interactive (ksEnv q scope L a cd cc) = false
  hs : ∀ (q : Str) (L a cc : Addr) (cd : Value), swapsWith (.Call (.Attribute (.Call (.Name "super" p1) [] [] p2) "__init__" p3) [msg] [] p4) none p5.line (ksEnv q scope L a cd cc) = pure false
  he : ∀ (q : Str) (L a cc : Addr) (cd : Value), ∃ pl, eval (.Call (.Attribute (.Call (.Name "super" p1) [] [] p2) "__init__" p3) [msg] [] p4) (ksEnv q scope L a cd cc) = (do
    let ov ← attributeBase (.Call (.Name "super" p1) [] [] p2) "__init__" (ksEnv q scope L a cd cc) (eval (.Call (.Name "super" p1) [] [] p2) (ksEnv q scope L a cd cc))
    standAt p3.atName
    let (f, first) ← holding [ov] (getMethod ov "__init__" pl)
    callWith p4 f first (backTo p4 (starEach [msg] (ksEnv q scope L a cd cc))) [])
  hst : ∀ (q : Str) (L a cc : Addr) (cd : Value), starEach [msg] (ksEnv q scope L a cd cc) = (false, eval msg (ksEnv q scope L a cd cc)) :: []
/-- the globals and the builtins as they are while the law runs -/
structure Around' (mg : Str → Option Value) (h : Heap) : Prop where
  g : h.Ns mainGlobals mg
  b : ∃ mb, h.Ns builtinsNs mb ∧ ∀ x : Str, x ≠ "__name__" → mb x = bootBuiltins x
section
variable {prog : Program} {w : World} {A : Around} {E : Value → Shared → Prop} {s : Shared} {K : Frag} {mg : Str → Option Value} {C fI cda cc D : Addr} {qual : Str} {params : Arguments} {body : List Stmt} {scope : Scope} {h₀ : Heap} {L : Addr} {m : Str → Option Value} {news : List (Addr × Obj)}
theorem sup_base {p0 p1 : Pos} {attr : Str} {whole : Sem Value} {x : Addr} {ox : Obj} {Q : Value → Shared → Prop} (T : ErrTxt prog K C fI cda cc qual params body scope) (S : ErrScope params scope) (G : Around' mg s.heap)
    (F : Fr h₀ L s.heap m) (X₀ : K.In h₀) (N : News h₀ L s.heap news) (hv : m "self" = some (.ref x)) (I : InstAt s.heap x ox C none) (hat : (attr == ("__class__" : Str)) = false)
    (h : ∀ so h', Fr h₀ L h' m → News h₀ L h' ((so, ks_superObj C x C) :: news) → (∀ p ∈ news, p.1 < so) → Q (.ref so) { s with heap := h' }) :
    _root_.PySem.wpAt (model prog w) A (.func body (ksEnv qual scope L fI (.ref cda) cc)) (attributeBase (.Call (.Name "super" p0) [] [] p1) attr (ksEnv qual scope L fI (.ref cda) cc) whole) Q E s := by
  have X : K.In s.heap := X₀.keeps F.keep
  obtain ⟨mb, gb, gbb⟩ := G.b
  have gg := G.g
  obtain ⟨oc, od, kV, doc, pm, ct, an, osl, hf, _⟩ := T.fn
  obtain ⟨cl, cld, csl, hcell⟩ := T.cell
  obtain ⟨ccl, cdd, vs, ccs, file, tf, hcode, hvs, hfile⟩ := T.code
  obtain ⟨nm, q, N', bs, bm, sn, sub, ab, col, dd, k0, k1, k2, k3, k5, hC, hbm⟩ := T.cls
  obtain ⟨ar, hp, har⟩ := S.hp
  have hmiss : mg "super" = none := mg_none_of X gg T.nos
  have hblt : mb "super" = some (.type "super") := (gbb _ (by decide +kernel)).trans (by first | rfl | decide +kernel | kernel_rfl)
  obtain ⟨hh, g, d, t, os⟩ := s
  refine ks_wpAt_super_base (env := ksEnv qual scope L fI (.ref cda) cc) S.hsup S.hc hat rfl (X _ _ hf) rfl hp rfl (X _ _ hcode) rfl hvs hfile T.top ?_
  refine ks_loadName_global S.hk S.hsup ?_
  refine loadGlobal_builtin (env := ksEnv qual scope L fI (.ref cda) cc) gg hmiss gb hblt ⟨rfl, ?_⟩
  refine wpAny_loadName_free S.hk S.hc rfl ⟨_, X _ _ hcell, rfl⟩ ?_
  rw [har]
  refine wpAny_loadName_local S.hk S.hs F.ns hv ?_
  refine ks_wpAny_isType_cls (X _ _ hC) rfl ⟨rfl, ?_⟩
  refine ks_wpAny_call_super (X _ _ hC) rfl I.at_ I.cls (fun c e => ?_) (looks_mroIn X T.me) (fun h' e k => ?_)
  · have z := I.no
    unfold notCls at z
    rw [e] at z
    cases z
  · obtain ⟨F', N', l'⟩ := ks_newsPush (s := ⟨hh, g, d, t, os⟩) F N rfl e k
    exact h _ _ F' N' l'
/-- super().__init__(message): the object has new args, all else stands -/
theorem sup_first {msg : Expr} {rest : List Stmt} {p1 p2 p3 p4 p5 : Pos} {x t0 : Addr} {p : Str} {v : Value} {Q : Flow → Shared → Prop} (T : ErrTxt prog K C fI cda cc qual params body scope) (S : ErrScope params scope) (SF : SupForm scope msg p1 p2 p3 p4 p5) (G : Around' mg s.heap)
    (F : Fr h₀ L s.heap m) (X₀ : K.In h₀) (N : News h₀ L s.heap [(x, excO C t0)]) (hv : m "self" = some (.ref x)) (hp : m p = some v) (hm : Msg prog w scope msg p v)
    (h : ∀ h' tk t1, Fr h₀ L h' m → h'.get? x = some (excO C t1) → wpAny (model prog w) A (execs rest (ksEnv qual scope L fI (.ref cda) cc)) Q E { s with heap := h', toks := tk }) :
    _root_.PySem.wpAt (model prog w) A (.func body (ksEnv qual scope L fI (.ref cda) cc)) (execs (supSt msg p1 p2 p3 p4 p5 :: rest) (ksEnv qual scope L fI (.ref cda) cc)) Q E s := by
  have I : InstAt s.heap x (excO C t0) C none := ⟨(N _ List.mem_cons_self).1, rfl, rfl, trivial⟩
  obtain ⟨pl, he⟩ := SF.he qual L fI cc (.ref cda)
  refine ks_wpAt_execs_cons (ks_wpAt_Expr_any (ks_wpAt_MethodCall (pl := pl) ?_ he) (SF.hi _ _ _ _ _) (SF.hs _ _ _ _ _))
  refine sup_base T S G F X₀ N hv I rfl fun so h1 F1 N1 l1 => ?_
  have I1 : InstAt h1 x (excO C t0) C none := ⟨(N1 _ (List.mem_cons_of_mem _ List.mem_cons_self)).1, rfl, rfl, trivial⟩
  refine kxs_method kxs_ValueError F1 X₀ N1 List.mem_cons_self I1 T.any T.si T.ve rfl fun q h2 F2 N2 l2 => ?_
  show wpAny (model prog w) A (callWith p4 (.ref q) [] (backTo p4 (starEach [msg] (ksEnv qual scope L fI (.ref cda) cc))) []) _ _ _
  rw [SF.hst]
  refine kxs_callWith (i := "ValueError.__init__") (x := x) rfl (evalArgs_plain (spliced_cons ?_))
  refine hm A E _ qual L fI cc (.ref cda) m _ F2.ns hp fun u t tk => spliced_nil ⟨kxs_at N2 List.mem_cons_self, ?_⟩
  refine kxs_call (rest := [.str u t]) (t := t0) (dv := none) (c2 := .none) (B := "ValueError") F2 X₀ N2 PySem.F.excBase_ValueError T.exI List.mem_cons_self (.tail (Nat.ne_of_gt (l2 _ (List.mem_cons_of_mem _ List.mem_cons_self))) (.tail (Nat.ne_of_gt (l1 _ List.mem_cons_self)) (.head fun _ h => nomatch h)))
    (by rw [sizeLine_eq]; exact (by decide : 1 ≤ 16777216)) fun t' h3 F3 N3 l3 => ?_
  exact wpAt_of_wpAny (h h3 _ t' F3 (N3 (x, excO C t') (by simp)).1)
end
/-! ### __init__ whole: without a field, with one -/
structure End0 (h h' : Heap) (x C : Addr) : Prop where
  keep : ∀ b o, b ≠ x → h.get? b = some o → h'.get? b = some o
  obj : ∃ t1, h'.get? x = some (excO C t1)
structure End1 (h h' : Heap) (x C dx : Addr) (f : Str) (v : Value) : Prop where
  keep : ∀ b o, b ≠ x → h.get? b = some o → h'.get? b = some o
  obj : ∃ t1, h'.get? x = some { cls := .ref C, dict := some dx, data := .fields #[.ref t1, .none, .none, .none, .bool false, .none] }
  dbig : h.objs.size ≤ dx
  dne : dx ≠ x
  ns : h'.Ns1 dx (fun y => if y = f then some v else none)
theorem one_size (v : Value) : [v].length ≤ sizeLine := by
  rw [sizeLine_eq]
  exact (by decide : 1 ≤ 16777216)
theorem nil_size : ([] : List Value).length ≤ sizeLine := Nat.zero_le _
section
variable {prog : Program} {w : World} {A : Around} {R : Result → Shared → Prop} {s : Shared} {K : Frag} {mg : Str → Option Value} {C fI cda cc : Addr} {qual : Str} {params : Arguments} {scope : Scope}
/-- the entry -/
theorem init_in {msg : Expr} {rest : List Stmt} {p1 p2 p3 p4 p5 : Pos} {x t0 : Addr} {args : List Value} {binds : List (Str × Value)} {p : Str} {v : Value} (T : ErrTxt prog K C fI cda cc qual params (supSt msg p1 p2 p3 p4 p5 :: rest) scope) (S : ErrScope params scope) (SF : SupForm scope msg p1 p2 p3 p4 p5) (G : Around' mg s.heap)
    (X : K.In s.heap) (hlim : s.heap.NoLimit) (hx : s.heap.get? x = some (excO C t0)) (hnx : K.lookup x = none) (hroom : A.depth < recursionLimit)
    (hbind : ∀ fd : FuncData, fd.params = params → fd.defaults = .none → BindsTo s fd ⟨.ref x :: args, []⟩ binds) (hloc : ∀ y ∈ binds, scope.names.lookup y.1 = some .local)
    (hv : binds.reverse.lookup ("self" : Str) = some (.ref x)) (hp : binds.reverse.lookup p = some v) (hm : Msg prog w scope msg p v)
    (h : ∀ h1 tk t1 L, h1.Ns L (fun y => binds.reverse.lookup y) → (∀ b o, b ≠ x → s.heap.get? b = some o → h1.get? b = some o) → L ≠ x → s.heap.objs.size ≤ L → h1.get? x = some (excO C t1) →
      wpAny (model prog w) (A.deeper (ksEnv qual scope L fI (.ref cda) cc)) (execs rest (ksEnv qual scope L fI (.ref cda) cc)) (fun f s' => R (.ok (.ret (match f with | .ret v => v | _ => .none))) s')
        (fun e s' => wpAny (model prog w) (A.deeper (ksEnv qual scope L fI (.ref cda) cc)) (leaving (ksEnv qual scope L fI (.ref cda) cc) e) (fun _ s'' => R (.error e) s'') (fun e' s'' => R (.error e') s'') s') { s with heap := h1, toks := tk }) :
    codeAny (model prog w) A (.call (.ref fI) ⟨.ref x :: args, []⟩) R s := by
  obtain ⟨oc, od, kV, doc, pm, ct, an, osl, ho, hcd⟩ := T.fn
  have hLx : s.heap.objs.size ≠ x := Nat.ne_of_gt (Heap.lt_size hx)
  have X₀ : K.In (hideAll s.heap [x]) := fun a o e => hideAll_get _ (X a o e) (fun z => by
    rw [List.mem_singleton] at z
    rw [z, hnx] at e
    cases e)
  refine ks_codeAny_call_defAt (fd := ksFn "__init__" qual params (supSt msg p1 p2 p3 p4 p5 :: rest) scope .none kV doc pm an (.ref cda) ct cc) hroom (X _ _ ho) rfl hlim (codeRec_of X hcd) rfl (hbind _ rfl rfl) S.cell hloc (fun h₁ hns hk₁ => ?_) S.co S.gen S.hk
  have F : Fr (hideAll s.heap [x]) s.heap.objs.size h₁ (fun y => binds.reverse.lookup y) := ⟨hns, fun b o e => hk₁ b o (of_hideAll _ e), Nat.le_of_eq (hideAll_size _ _)⟩
  have N : News (hideAll s.heap [x]) s.heap.objs.size h₁ [(x, excO C t0)] := fun q hq => by
    rw [List.mem_singleton] at hq
    subst hq
    exact ⟨hk₁ _ _ hx, hLx.symm, hideAll_none _ List.mem_cons_self⟩
  have G₁ : Around' mg h₁ := ⟨G.g.keeps hk₁, by
    obtain ⟨mb, b1, b2⟩ := G.b
    exact ⟨mb, b1.keeps hk₁, b2⟩⟩
  refine sup_first (s := { s with heap := h₁, toks := s.toks + binds.length }) T S SF G₁ F X₀ N hv hp hm fun h' tk t1 F' hx' => ?_
  exact h h' tk t1 _ F'.ns (fun b o hb e => F'.keep b o (hideAll_get _ e (by simpa using hb))) hLx (Nat.le_refl _) hx'
theorem init0 {msg : Expr} {p1 p2 p3 p4 p5 : Pos} {x t0 : Addr} (T : ErrTxt prog K C fI cda cc qual params [supSt msg p1 p2 p3 p4 p5] scope) (S : ErrScope params scope) (SF : SupForm scope msg p1 p2 p3 p4 p5) (G : Around' mg s.heap)
    (X : K.In s.heap) (hlim : s.heap.NoLimit) (hx : s.heap.get? x = some (excO C t0)) (hnx : K.lookup x = none) (hroom : A.depth < recursionLimit)
    (hbind : ∀ fd : FuncData, fd.params = params → fd.defaults = .none → BindsTo s fd ⟨[.ref x], []⟩ [("self", .ref x)]) (hm : ∀ v, Msg prog w scope msg "self" v)
    (hq : ∀ h' tk, End0 s.heap h' x C → R (.ok (.ret .none)) { s with heap := h', toks := tk }) : codeAny (model prog w) A (.call (.ref fI) ⟨[.ref x], []⟩) R s := by
  refine init_in (p := "self") (v := .ref x) T S SF G X hlim hx hnx hroom hbind (fun y hy => ?_) rfl rfl (hm _) fun h1 tk t1 L hns k hL hl hx1 => ?_
  · rw [List.mem_singleton] at hy
    rw [hy]
    exact S.hs
  · exact wpAny_execs_nil (hq h1 tk ⟨k, t1, hx1⟩)
theorem init1 {msg : Expr} {p1 p2 p3 p4 p5 q1 q2 q3 q4 : Pos} {x t0 : Addr} {f : Str} {v : Value} (T : ErrTxt prog K C fI cda cc qual params [supSt msg p1 p2 p3 p4 p5, stoSt f q1 q2 q3 q4] scope) (S : ErrScope params scope) (SF : SupForm scope msg p1 p2 p3 p4 p5) (G : Around' mg s.heap)
    (X : K.In s.heap) (hlim : s.heap.NoLimit) (hx : s.heap.get? x = some (excO C t0)) (hnx : K.lookup x = none) (hroom : A.depth < recursionLimit)
    (noN : findIn K (.ref C) f = some none) (hlf : scope.names.lookup f = some .local) (hfs : (f == ("self" : Str)) = false) (hfd : (f == ("__debug__" : Str)) = false)
    (hsw : ∀ (q : Str) (L a cc : Addr) (cd : Value), swapsWith (.Name f q3) (some (.Attribute (.Name "self" q1) f q2)) q4.line (ksEnv q scope L a cd cc) = pure false)
    (hbind : ∀ fd : FuncData, fd.params = params → fd.defaults = .none → BindsTo s fd ⟨[.ref x, v], []⟩ [("self", .ref x), (f, v)]) (hm : Msg prog w scope msg f v)
    (hq : ∀ h' tk dx, End1 s.heap h' x C dx f v → R (.ok (.ret .none)) { s with heap := h', toks := tk }) : codeAny (model prog w) A (.call (.ref fI) ⟨[.ref x, v], []⟩) R s := by
  obtain ⟨nm, q, N', bs, bm, sn, sub, ab, col, dd, k0, k1, k2, k3, k5, hC, hbm⟩ := T.cls
  have hcl : clsIn K C = some { name := nm, bases := bs, mro := .ref C :: bm, ns := N', qualname := q, hasDict := true, slotNames := sn, subclasses := sub, abstract := ab, collection := col, hasDel := false } := by unfold clsIn; rw [hC] <;> rfl
  have l1 : ([("self", .ref x), (f, v)] : List (Str × Value)).reverse.lookup ("self" : Str) = some (.ref x) := by
    have e : (("self" : Str) == f) = false := by
      rw [beq_eq_false_iff_ne] at hfs ⊢
      exact Ne.symm hfs
    show List.lookup ("self" : Str) [(f, v), ("self", .ref x)] = _
    simp only [List.lookup, e]
    rfl
  have l2 : ([("self", .ref x), (f, v)] : List (Str × Value)).reverse.lookup f = some v := by
    show List.lookup f [(f, v), ("self", .ref x)] = _
    simp only [List.lookup, beq_self_eq_true]
  refine init_in (p := f) (v := v) T S SF G X hlim hx hnx hroom hbind (fun y hy => ?_) l1 l2 hm fun h1 tk t1 L hns k hL hl hx1 => ?_
  · rcases List.mem_cons.mp hy with e | hy
    · rw [e]
      exact S.hs
    · rw [List.mem_singleton] at hy
      rw [hy]
      exact hlf
  · have X1 : K.In h1 := fun a o e => k a o (fun z => by rw [z, hnx] at e; cases e) (X a o e)
    refine wpAny_execs_cons (plainObj_wpAny_Assign_Attribute ?_ (hsw _ _ _ _ _))
    refine ldX hns l2 (ldX (x := "self") hns l1 ?_ S.hk S.hs rfl) S.hk hlf hfd
    refine set_plain X1 (ox := excO C t1) (od := none) ⟨hx1, rfl, rfl, trivial⟩ T.sa ?_
    refine exc_osa X1 hx1 hcl (show refsVE (.ref C :: bm) = true from hbm) rfl noN (fun h₃ tk₃ dx k₃ dn dne hx₃ hn₃ => ?_)
    show wpAny _ _ (execs _ _) _ _ _
    have z : L < h1.objs.size := hns.lt
    exact wpAny_execs_nil (hq h₃ tk₃ dx ⟨fun b o hb e => k₃ b o hb (k b o hb e), ⟨t1, hx₃⟩, Nat.le_trans hl (Nat.le_trans (Nat.le_of_lt z) dn), dne, hn₃⟩)
/-! ### C(..) made -/
structure Made0 (h h' : Heap) (e C : Addr) : Prop where
  keep : ∀ b o, h.get? b = some o → h'.get? b = some o
  new : h.get? e = none
  obj : ∃ t1, h'.get? e = some (excO C t1)
structure Made1 (h h' : Heap) (e C d : Addr) (f : Str) (v : Value) : Prop where
  keep : ∀ b o, h.get? b = some o → h'.get? b = some o
  new : h.objs.size ≤ e
  obj : ∃ oe vs, h'.get? e = some oe ∧ oe.cls = .ref C ∧ oe.dict = some d ∧ oe.data = .fields vs ∧ vs[1]? = some .none
  dbig : h.objs.size ≤ d
  dne : d ≠ e
  ns : h'.Ns1 d (fun y => if y = f then some v else none)
theorem big_none {K : Frag} {h : Heap} (X : K.In h) : K.lookup (h.objs.size + 1) = none := by
  cases e : K.lookup (h.objs.size + 1) with
  | none => rfl
  | some o => exact absurd (Nat.lt_of_succ_lt (Heap.lt_size (X _ _ e))) (Nat.lt_irrefl _)
theorem made0 {msg : Expr} {p1 p2 p3 p4 p5 : Pos} (T : ErrTxt prog K C fI cda cc qual params [supSt msg p1 p2 p3 p4 p5] scope) (S : ErrScope params scope) (SF : SupForm scope msg p1 p2 p3 p4 p5) (G : Around' mg s.heap)
    (X : K.In s.heap) (hlim : s.heap.NoLimit) (hroom : A.depth + 1 < recursionLimit)
    (hbind : ∀ (s : Shared) (fd : FuncData) (x : Addr), fd.params = params → fd.defaults = .none → BindsTo s fd ⟨[.ref x], []⟩ [("self", .ref x)]) (hm : ∀ v, Msg prog w scope msg "self" v)
    (hq : ∀ h' tk e, Made0 s.heap h' e C → R (.ok (.ret (.ref e))) { s with heap := h', toks := tk }) : codeAny (model prog w) A (.call (.ref C) ⟨[], []⟩) R s := by
  obtain ⟨nm, q, N, bs, bm, sn, sub, ab, col, dd, k0, k1, k2, k3, k5, hC, hbm⟩ := T.cls
  obtain ⟨hp, g, dr, tk, os⟩ := s
  have k : ∀ b o, hp.get? b = some o → ((hp.push (kdv_tup [])).push (excO C hp.objs.size)).get? b = some o := fun b o e => Heap.get?_push_of_some _ (Heap.get?_push_of_some _ e)
  have hget : ((hp.push (kdv_tup [])).push (excO C hp.objs.size)).get? (hp.objs.size + 1) = some (excO C hp.objs.size) := by heap_get
  obtain ⟨mb, b1, b2⟩ := G.b
  refine call_own PySem.F.excBase_ValueError (fun X => refsVE_contains X bm hbm) (X _ _ hC) (looks_findIn X T.iC) (fun self => bind_fn X self T.tC) nil_size ?_
  refine init0 (s := ⟨(hp.push (kdv_tup [])).push (excO C hp.objs.size), g, dr, tk, os⟩) T S SF ⟨G.g.keeps k, mb, b1.keeps k, b2⟩ (X.keeps k) (hlim.keeps k) hget (big_none X) ?_ (fun fd e e2 => hbind _ fd _ e e2) hm fun h' tk' ⟨k', hx⟩ => ?_
  · show A.depth + 1 < recursionLimit
    exact hroom
  · have old : ∀ b o, hp.get? b = some o → h'.get? b = some o := fun b o e => k' b o (Nat.ne_of_lt (Nat.lt_succ_of_lt (Heap.lt_size e))) (k b o e)
    refine ⟨rfl, hq h' tk' (hp.objs.size + 1) ⟨old, ?_, hx⟩⟩
    cases e : hp.get? (hp.objs.size + 1) with
    | none => rfl
    | some o => exact absurd (Nat.lt_of_succ_lt (Heap.lt_size e)) (Nat.lt_irrefl _)
theorem made1 {msg : Expr} {p1 p2 p3 p4 p5 q1 q2 q3 q4 : Pos} {f : Str} {v : Value} (T : ErrTxt prog K C fI cda cc qual params [supSt msg p1 p2 p3 p4 p5, stoSt f q1 q2 q3 q4] scope) (S : ErrScope params scope) (SF : SupForm scope msg p1 p2 p3 p4 p5) (G : Around' mg s.heap)
    (X : K.In s.heap) (hlim : s.heap.NoLimit) (hroom : A.depth + 1 < recursionLimit)
    (noN : findIn K (.ref C) f = some none) (hlf : scope.names.lookup f = some .local) (hfs : (f == ("self" : Str)) = false) (hfd : (f == ("__debug__" : Str)) = false)
    (hsw : ∀ (q : Str) (L a cc : Addr) (cd : Value), swapsWith (.Name f q3) (some (.Attribute (.Name "self" q1) f q2)) q4.line (ksEnv q scope L a cd cc) = pure false)
    (hbind : ∀ (s : Shared) (fd : FuncData) (x : Addr) (v : Value), fd.params = params → fd.defaults = .none → BindsTo s fd ⟨[.ref x, v], []⟩ [("self", .ref x), (f, v)]) (hm : Msg prog w scope msg f v)
    (hq : ∀ h' tk e d, Made1 s.heap h' e C d f v → R (.ok (.ret (.ref e))) { s with heap := h', toks := tk }) : codeAny (model prog w) A (.call (.ref C) ⟨[v], []⟩) R s := by
  obtain ⟨nm, q, N, bs, bm, sn, sub, ab, col, dd, k0, k1, k2, k3, k5, hC, hbm⟩ := T.cls
  obtain ⟨hp, g, dr, tk, os⟩ := s
  have k : ∀ b o, hp.get? b = some o → ((hp.push (kdv_tup [v])).push (excO C hp.objs.size)).get? b = some o := fun b o e => Heap.get?_push_of_some _ (Heap.get?_push_of_some _ e)
  have hget : ((hp.push (kdv_tup [v])).push (excO C hp.objs.size)).get? (hp.objs.size + 1) = some (excO C hp.objs.size) := by heap_get
  obtain ⟨mb, b1, b2⟩ := G.b
  refine call_own PySem.F.excBase_ValueError (fun X => refsVE_contains X bm hbm) (X _ _ hC) (looks_findIn X T.iC) (fun self => bind_fn X self T.tC) (one_size v) ?_
  refine init1 (s := ⟨(hp.push (kdv_tup [v])).push (excO C hp.objs.size), g, dr, tk, os⟩) T S SF ⟨G.g.keeps k, mb, b1.keeps k, b2⟩ (X.keeps k) (hlim.keeps k) hget (big_none X) ?_ noN hlf hfs hfd hsw (fun fd e e2 => hbind _ fd _ _ e e2) hm fun h' tk' dx ⟨k', hx, dn, dne, hns⟩ => ?_
  · show A.depth + 1 < recursionLimit
    exact hroom
  · have old : ∀ b o, hp.get? b = some o → h'.get? b = some o := fun b o e => k' b o (Nat.ne_of_lt (Nat.lt_succ_of_lt (Heap.lt_size e))) (k b o e)
    have z : hp.objs.size + 1 + 1 ≤ dx := by
      first
        | (simpa only [Heap.size_push] using dn)
        | exact dn
        | (have q := dn; rw [Heap.size_push, Heap.size_push] at q; exact q)
    obtain ⟨t1, hx⟩ := hx
    exact ⟨rfl, hq h' tk' (hp.objs.size + 1) dx ⟨old, Nat.le_succ _, ⟨_, _, hx, rfl, rfl, rfl, rfl⟩, Nat.le_trans (Nat.le_trans (Nat.le_succ _) (Nat.le_succ _)) z, dne, hns⟩⟩
end
end SupX
end PySem
namespace L2
open PySem PySem.Spec PyProof.Rows
theorem relO_one {f : Str} {v : V} {v' : Value} (r : RelV v v') (y : Str) : RelO (List.lookup y [(f, v)]) (if y = f then some v' else none) := by
  by_cases hw : y = f
  · subst hw
    rw [if_pos rfl]
    have q : List.lookup y [(y, v)] = some v := by simp [List.lookup]
    rw [q]
    exact r
  · rw [if_neg hw]
    have qw : (y == f) = false := by simpa using hw
    have q2 : List.lookup y [(f, v)] = none := by simp [List.lookup, qw]
    rw [q2]
    trivial
section
variable {X : Cx} {C fI cda cc : Addr} {qual : Str} {params : Arguments} {scope : Scope}
theorem around_of {pins : List (Addr × Obj)} {σ : St} {H : Hp} {s : Shared} (I : Inv X pins σ H s) : PySem.SupX.Around' X.mg s.heap := by
  obtain ⟨mb, h1, h2⟩ := I.mod.blt
  exact ⟨I.mod.glob.keeps I.bk, mb, h1.keeps I.bk, h2⟩
/-- C() -/
theorem pmk0 {msg : Expr} {p1 p2 p3 p4 p5 : Pos} {x : Str} {p pos : Pos} (T : PySem.SupX.ErrTxt X.prog X.K C fI cda cc qual params [PySem.SupX.supSt msg p1 p2 p3 p4 p5] scope) (S : PySem.SupX.ErrScope params scope) (SF : PySem.SupX.SupForm scope msg p1 p2 p3 p4 p5)
    (hbind : ∀ (s : Shared) (fd : FuncData) (x : Addr), fd.params = params → fd.defaults = .none → BindsTo s fd ⟨[.ref x], []⟩ [("self", .ref x)]) (hm : ∀ v, PySem.SupX.Msg X.prog X.w scope msg "self" v)
    (gC : X.mg x = some (.ref C)) {k : Nat} (hr : Room (k + 1) X.A) (hg : Gl X x) (hdb : (x == ("__debug__" : Str)) = false := by decide) : PMk X (.Call (.Name x p) [] [] pos) (fun _ H Q => Q (.ref C) none H) := by
  intro pins s σ H Q I h
  refine wpAny_Call_Name_kw (ld_glob I hg gC ?_ hdb)
  refine PySem.W.callWith_K0 I.kIn T.kC ?_
  have hlim := I.nolimit
  have G := around_of I
  obtain ⟨hp, g, dr, tk, os⟩ := s
  refine wpAny_call (PySem.SupX.made0 T S SF G I.kIn hlim (by have := hr.dp; omega) hbind hm fun h' tk' e M => ?_)
  obtain ⟨t1, he⟩ := M.obj
  exact ⟨e, _, _, ⟨hp, g, dr, tk, os⟩, H, .ref C, none, rfl, I, M.keep, M.new, he, ⟨rfl, rfl⟩, rfl, rfl, I.hok.gone M.new, rfl, I.bare, raises_own T.exC T.tyC, h⟩
/-- C(e) -/
theorem pmk1 {msg : Expr} {p1 p2 p3 p4 p5 q1 q2 q3 q4 : Pos} {f : Str} {x : Str} {p pos : Pos} {a : Expr} {ta : TA} {P : V → Prop} (T : PySem.SupX.ErrTxt X.prog X.K C fI cda cc qual params [PySem.SupX.supSt msg p1 p2 p3 p4 p5, PySem.SupX.stoSt f q1 q2 q3 q4] scope) (S : PySem.SupX.ErrScope params scope) (SF : PySem.SupX.SupForm scope msg p1 p2 p3 p4 p5)
    (noN : PySem.W.findIn X.K (.ref C) f = some none) (hlf : scope.names.lookup f = some .local) (hfs : (f == ("self" : Str)) = false) (hfd : (f == ("__debug__" : Str)) = false)
    (hsw : ∀ (q : Str) (L a cc : Addr) (cd : Value), swapsWith (.Name f q3) (some (.Attribute (.Name "self" q1) f q2)) q4.line (PySem.W.ksEnv q scope L a cd cc) = pure false)
    (hbind : ∀ (s : Shared) (fd : FuncData) (x : Addr) (v : Value), fd.params = params → fd.defaults = .none → BindsTo s fd ⟨[.ref x, v], []⟩ [("self", .ref x), (f, v)]) (hm : ∀ (v : V) (v' : Value), RelV v v' → P v → PySem.SupX.Msg X.prog X.w scope msg f v')
    (gC : X.mg x = some (.ref C)) {k : Nat} (hr : Room (k + 1) X.A) (ha : PA X [a] ta) (hg : Gl X x) (hdb : (x == ("__debug__" : Str)) = false := by decide)
    (he : starEach (a :: []) X.env = (false, eval a X.env) :: starEach [] X.env := by rfl) (hpl : (backTo pos (starEach [] X.env)).any (·.1) = false := by rfl) :
    PMk X (.Call (.Name x p) [a] [] pos) (fun σ H Q => ta σ H fun vs H1 => ∃ v, vs = [v] ∧ P v ∧ ∀ d, H1 d = none → Q (.ref C) (some d) (upd H1 d (.xd [(f, v)]))) := by
  intro pins s σ H Q I h
  refine wpAny_Call_Name_kw (ld_glob I hg gC ?_ hdb)
  refine PySem.W.callWith_K (h₀ := X.base) I.ok.mod.kin T.kC (thn (ha.run pos pins s σ H _ I h) fun us s1 hh => ?_) he hpl
  obtain ⟨vs, H1, I1, r1, v, ev, hP, q1⟩ := hh
  subst ev
  refine ⟨I1.kIn, ?_⟩
  cases r1 with
  | cons rv rn =>
    rename_i v' us'
    cases rn
    show wpAny _ _ (call (.ref C) [v']) _ _ _
    have hlim := I1.nolimit
    have G := around_of I1
    obtain ⟨hp, g, dr, tk, os⟩ := s1
    refine wpAny_call (PySem.SupX.made1 T S SF G I1.kIn hlim (by have := hr.dp; omega) noN hlf hfs hfd hsw hbind (hm _ _ rv hP) fun h' tk' e d M => ?_)
    show MkP X pins σ Q (.ref e) ⟨h', g, dr, tk', os⟩
    obtain ⟨oe, fv, hoe, hc, hd, hdat, h1⟩ := M.obj
    have hns := M.ns
    obtain ⟨G', g1, g2⟩ := restrict h' fun b => decide (b ≠ e)
    have gk : ∀ b, b ≠ e → G'.get? b = h'.get? b := fun b hb => g1 b (decide_eq_true hb)
    have ge : G'.get? e = none := g2 e (by simp)
    have old : ∀ b o, hp.get? b = some o → G'.get? b = some o := fun b o q => (gk b (Nat.ne_of_lt (Nat.lt_of_lt_of_le (Heap.lt_size q) M.new))).trans (M.keep b o q)
    have ob : ObjOk X.prog X.w (upd H1 d (.xd [(f, v)])) G' d (.xd [(f, v)]) := ⟨_, hns.at (fun o q => (gk d M.dne).trans q), fun y => relO_one rv y⟩
    have J : Inv X pins σ (upd H1 d (.xd [(f, v)])) ⟨G', g, dr, tk', os⟩ := I1.laid (t' := tk') old M.dbig ob
    refine ⟨e, oe, fv, ⟨G', g, dr, tk', os⟩, _, .ref C, some d, rfl, J, fun b o q => ?_, ge, hoe, ⟨hc, hd⟩, hdat, h1, ?_, rfl, I1.bare, raises_own T.exC T.tyC, q1 d (I1.hok.fresh M.dbig)⟩
    · by_cases hb : b = e
      · have q' : G'.get? b = some o := q
        rw [hb, ge] at q'; cases q'
      · exact (gk b hb).symm.trans q
    · rw [upd_ne (Ne.symm M.dne)]
      exact I1.hok.fresh M.new
end
end L2
end
section -- SY
set_option Elab.async false
set_option linter.all false
set_option maxRecDepth 100000
set_option maxHeartbeats 1000000
/-! The data layer: raise, try, what an except suite reads of its error. -/
namespace DL
open PySem PySem.Spec L2
/-! ### raise C(e), raise C() -/
def raiM (C : Addr) (f : Str) (ok : D → Bool) (ma : M (List D)) : M Fl := mb ma fun ds => mb (fzs ds) fun xs => fun s => match xs with
  | [d] => if ok d = true then .exc ⟨.ref C, [(f, d)]⟩ s else .bad
  | _ => .bad
def rai0 (C : Addr) : M Fl := fun s => .exc ⟨.ref C, []⟩ s
section
variable {X : Cx} {Z : En} {W : WX} {k : Nat} {a : Expr} {e : Expr} {ma : M (List D)} {pos : Pos} {C : Addr} {f : Str} {P : V → Prop} {ok : D → Bool}
theorem s_rai1 (o : Ok X W k) (ha : PA X [a] (tA X.K Z W ma)) (hp : ∀ d v g, rep X.K g d v → ok d = true → P v)
    (hmk : ∀ ta : TA, PA X [a] ta → PMk X e (fun σ H Q => ta σ H fun vs H1 => ∃ v, vs = [v] ∧ P v ∧ ∀ d, H1 d = none → Q (.ref C) (some d) (upd H1 d (.xd [(f, v)])))) :
    PS X (.Raise (some e) none pos) (tS X.K Z W (raiM C f ok ma)) :=
  PS.weak (ps_raise o.calm o.tk (hmk _ ha)) fun D σ H ⟨s, g, sr, q⟩ => goA isS sr q fun ds s1 vs H1 g1 l1 sr1 r1 e1 => by
    obtain ⟨g2, xs, s2, l2, sr2, r2, e2⟩ := fzs_end isS sr1 r1 e1
    cases xs with
    | nil => exact e2.elim
    | cons d xs =>
      cases xs with
      | cons _ _ => exact e2.elim
      | nil =>
        simp only at e2
        split at e2
        · rename_i hd
          obtain ⟨v, r, rfl, rv, rn⟩ := r2
          cases rn
          refine ⟨v, rfl, hp d v g2 rv hd, fun dd hdd => ?_⟩
          obtain ⟨le, sr3⟩ := sr2.alloc (p := dd) (u := .xd [(f, v)]) hdd
          exact e2 σ (.ref C) (some dd) _ _ le sr3 ⟨rfl, dd, [(f, v)], rfl, upd_same, v, [], rfl, rep_mono le _ _ rv, rfl⟩
        · exact e2.elim
theorem s_rai0 (o : Ok X W k) (hmk : PMk X e (fun _ H Q => Q (.ref C) none H)) : PS X (.Raise (some e) none pos) (tS X.K Z W (rai0 C)) :=
  PS.weak (ps_raise o.calm o.tk hmk) fun D σ H ⟨s, g, sr, q⟩ => q σ (.ref C) none H g (Gle.refl _) sr ⟨rfl, rfl⟩
end
/-! ### try: body, except C as e: suite -/
def clR (i : Nat) : R Fl → R Fl
  | .ok f s => .ok f { s with sl := s.sl.set i .non }
  | _ => .bad
abbrev sfn (i : Nat) (a : Addr) (s : S) : S := { s with sl := s.sl.set i (.dat (.fn a)) }
open Classical in
noncomputable def allA (i : Nat) (h : Addr → M Fl) (s : S) : R Fl := if hp : ∃ r, ∀ a, clR i (h a (sfn i a s)) = r then hp.choose else .bad
theorem allA_eq {i : Nat} {h : Addr → M Fl} {s : S} {r : R Fl} (e : ∀ a, clR i (h a (sfn i a s)) = r) : allA i h s = r := by
  have hp : ∃ r, ∀ a, clR i (h a (sfn i a s)) = r := ⟨r, e⟩
  unfold allA
  rw [dif_pos hp]
  exact (hp.choose_spec 0).symm.trans (e 0)
open Classical in
noncomputable def tryM (C : Addr) (i : Nat) (m : M Fl) (h : Addr → Ex → M Fl) : M Fl := fun s => match m s with
  | .exc x s' => if x.cls = .ref C then allA i (fun a => h a x) s' else .bad
  | r => r
theorem tryM_ok {C : Addr} {i : Nat} {m : M Fl} {h : Addr → Ex → M Fl} {s s' : S} {f : Fl} (e : m s = .ok f s') : tryM C i m h s = .ok f s' := by unfold tryM; rw [e]
theorem tryM_exc {C : Addr} {i : Nat} {m : M Fl} {h : Addr → Ex → M Fl} {s s' : S} {fs : List (Str × D)} {r : R Fl} (e : m s = .exc ⟨.ref C, fs⟩ s') (k : ∀ a, clR i (h a ⟨.ref C, fs⟩ (sfn i a s')) = r) : tryM C i m h s = r := by
  unfold tryM
  rw [e]
  show (if Value.ref C = Value.ref C then _ else _) = _
  rw [if_pos rfl]
  exact allA_eq k
section
variable {K : PySem.W.Frag} {Z : En} {s s0 : S} {g g0 : Gh} {σ σ0 : St} {H H0 : Hp}
/-- the entry moved to here, and back -/
theorem SR.here (sr : SR K Z s g σ H) : SR K ⟨g, Z.H, Z.self⟩ s g σ H :=
  ⟨sr.gr, ⟨Gle.refl _, fun a o e n => sr.fr.keep a o e (fun z => by
      obtain ⟨_, r, e1⟩ := sr.fr.le
      exact n (by rw [e1]; exact List.mem_append_left _ z)), sr.fr.there, fun a e => .inl e, fun a e => .inl e⟩, sr.dat, sr.own, fun i o e => by
    obtain ⟨a, h1, h2, h3, h4, h5⟩ := sr.bor i o e
    exact ⟨a, h1, h2, h3, h4, h3⟩, sr.apart, sr.len, sr.self⟩
theorem SR.back (sr0 : SR K Z s0 g0 σ0 H0) (sr : SR K ⟨g0, Z.H, Z.self⟩ s g σ H) : SR K Z s g σ H :=
  ⟨sr.gr, ⟨sr0.fr.le.trans sr.fr.le, fun a o e n => sr.fr.keep a o e (fun z => by
      rcases sr0.fr.new a z with z | z
      · exact n z
      · rw [z] at e; cases e), sr.fr.there, fun a e => by
      rcases sr.fr.frz a e with z | z
      · exact sr0.fr.frz a z
      · exact .inr z, fun a e => by
      rcases sr.fr.new a e with z | z
      · exact sr0.fr.new a z
      · exact .inr z⟩, sr.dat, sr.own, fun i o e => by
    obtain ⟨a, h1, h2, h3, h4, h5⟩ := sr.bor i o e
    refine ⟨a, h1, h2, h3, h4, fun z => h5 ?_⟩
    obtain ⟨_, r, e1⟩ := sr0.fr.le
    show a ∈ g0.as
    rw [e1]
    exact List.mem_append_left _ z, sr.apart, sr.len, sr.self⟩
end
section
variable {X : Cx} {Z : En} {W : WX} {k : Nat} {x n : Str} {i : Nat} {body suite : List Stmt} {b₀ : Stmt} {np pos pos' : Pos} {C : Addr} {m : M Fl} {h : Addr → Ex → M Fl}
theorem s_try (o : Ok X W k) (hs : X.stack = X.env :: X.outer) (hf : X.env.frame = some X.env.locals) (hi : X.N[i]? = some n) (hln : X.env.kindOf n = some .local) (hc : Names X x (.ref C)) (te : PySem.W.exmOne X.K (.ref C) (.ref C) = some true)
    (hb : ∀ (W' : WX) (pn : List (Addr × Obj)) (xe : Value → Shared → Prop), Ok (X.tr pn xe) W' k → PSs (X.tr pn xe) body (tS X.K Z W' m))
    (hsu : ∀ (a : Addr) (oe : Obj) (d : Option Addr) (pn : List (Addr × Obj)) (Z' : En) (y : Ex), Zc (.ref C) d oe → (∃ vs, oe.data = .fields vs) → xrep X.K Z'.g Z'.H y (.ref C) d → PSs (X.suite a ((a, oe) :: pn)) (b₀ :: suite) (tS X.K Z' W0 (h a y))) :
    PS X (.Try body [.ExceptHandler (some (.Name x np)) (some n) (b₀ :: suite) pos'] [] [] pos) (tS X.K Z W (tryM C i m h)) := by
  refine PS.weak (ps_try_as (tb := fun W' => tS X.K Z W' m) (ts := fun a cls d D σ H => cls = .ref C ∧ ∃ Z' y, xrep X.K Z'.g Z'.H y (.ref C) d ∧ tS X.K Z' W0 (h a y) D σ H) (Wout := W) hs hf o.nd hi hln hc o.tk
    (fun W' pn xe tk po => hb W' pn xe ⟨o.calm, o.nd, o.room, tk, po⟩) (fun a oe cls d pn hz hfs => ?_)) fun D σ H ⟨s, g, sr, q⟩ => ?_
  · refine ⟨fun pins s σ H D I hh => ?_⟩
    obtain ⟨rfl, Z', y, xr, t⟩ := hh
    exact (hsu a oe d pn Z' y hz hfs xr).run pins s σ H D I t
  · refine ⟨s, g, sr, ?_⟩
    unfold tryM at q
    cases hm : m s with
    | ok fl s1 => rw [hm] at q; cases fl <;> exact q
    | bad => rw [hm] at q; exact q
    | exc y s1 =>
      rw [hm] at q
      simp only at q
      split at q
      · rename_i hcl
        intro σ1 cls dd H1 g1 l1 sr1 xr
        obtain ⟨ec, xr2⟩ := xr
        rw [hcl] at ec
        subst ec
        refine ⟨true, te, fun _ a _ => ⟨rfl, ⟨g1, Z.H, Z.self⟩, y, ⟨hcl.symm, xr2⟩, sfn i a s1, g1, (sr1.set (i := i) (d := .fn a) (v := .ref a) rfl).here, ?_⟩, fun z => Bool.noConfusion z⟩
        unfold allA at q
        split at q
        · rename_i hp
          have hr := hp.choose_spec a
          rw [← hr] at q
          have q : SEnd X.K Z W g D (clR i (h a y (sfn i a s1))) := q
          have sr2 : SR X.K Z (sfn i a s1) g1 (σ1.set i (some (.ref a))) H1 := sr1.set (i := i) (d := .fn a) (v := .ref a) rfl
          cases hh : h a y (sfn i a s1) with
          | bad => rw [hh] at q; exact q.elim
          | exc _ _ => rw [hh] at q; exact q.elim
          | ok fl s3 =>
            rw [hh] at q
            cases fl with
            | nx => exact fun σ3 H3 g3 l3 sr3 => q (σ3.set i none) H3 g3 (l1.trans l3) (sr2.back sr3).wipe1
            | bk => exact fun σ3 H3 g3 l3 sr3 => q (σ3.set i none) H3 g3 (l1.trans l3) (sr2.back sr3).wipe1
            | ct => exact fun σ3 H3 g3 l3 sr3 => q (σ3.set i none) H3 g3 (l1.trans l3) (sr2.back sr3).wipe1
            | rt d => exact fun v σ3 H3 g3 l3 sr3 rv => q v (σ3.set i none) H3 g3 (l1.trans l3) (sr2.back sr3).wipe1 rv
        · exact q.elim
      · exact q.elim
end
/-! ### what the suite reads -/
def exfM (a : Addr) (y : Ex) (f : Str) (m : M D) : M D := mb m fun d => mopt fun _ => match d with | .fn b => if b = a then y.fs.lookup f else none | _ => none
def isxM (a : Addr) (c : Bool) (m : M D) : M D := mb m fun d => mopt fun _ => match d with | .fn b => if b = a then some (.bl c) else none | _ => none
/-- what the class must say for this -/
structure ExR (K : PySem.W.Frag) (C : Addr) : Prop where
  ga : PySem.W.findIn K (.ref C) "__getattribute__" = some (some (.builtin "BaseException.__getattribute__"))
  gg : PySem.W.findIn K (.ref C) "__getattr__" = some none
  exC : PySem.W.subIn K (.ref C) (.type "BaseException") = some true
  hdC : PySem.W.hasDictIn K C = true
  cl : (PySem.W.clsIn K C).isSome = true
  ha : PySem.W.findIn K (.ref C) "__class__" = some (some (.builtin "object.__class__"))
  hn : PySem.W.specialIn K (.builtin "object.__class__") "__get__" = some (some (.builtin "getset_descriptor.__get__"))
  ht : PySem.W.takesIn K (.builtin "object.__class__") = some true
  hm : PySem.W.mroIn K C (.type "object") = some true
section
variable {X : Cx} {Z : En} {W : WX} {a C : Addr} {oe : Obj} {d : Option Addr} {pn : List (Addr × Obj)} {y : Ex} {e : Expr} {m : M D} {f : Str} {pos : Pos}
/-- the error's object in a state of the suite -/
theorem ex_inst {σ : St} {H1 : Hp} {s1 : S} {g1 : Gh} {pins : List (Addr × Obj)} {sh : Shared} (I : Inv (X.suite a ((a, oe) :: pn)) pins σ H1 sh) (sr : SRz X.K Z s1 g1 σ H1) (hz : Zc (.ref C) d oe) (hf : ∃ vs, oe.data = .fields vs) (xr : xrep X.K Z.g Z.H y (.ref C) d) :
    ∃ od, PySem.W.InstAt sh.heap a oe C od ∧ ∀ v, y.fs.lookup f = some v → ∃ o u u', od = some o ∧ PySem.W.lookIn f o = some (some u) ∧ RelV u' u ∧ rep X.K g1 v u' := by
  obtain ⟨hget, _⟩ := I.pin (a, oe) (List.mem_append_left _ List.mem_cons_self)
  obtain ⟨vs, hv⟩ := hf
  obtain ⟨_, x2⟩ := xr
  cases hfs : y.fs with
  | nil =>
    rw [hfs] at x2
    subst x2
    exact ⟨none, ⟨hget, hz.1, by unfold PySem.W.notCls; rw [hv] <;> rfl, by rw [hz.2]; exact trivial⟩, fun v z => by cases z⟩
  | cons p ps =>
    rw [hfs] at x2
    obtain ⟨dd, us, rfl, h1, h2⟩ := x2
    have h3 : H1 dd = some (.xd us) := sr.gr.sub _ _ (sr.fr.le.1 _ _ h1)
    have hx : ObjOk X.prog X.w H1 sh.heap dd (.xd us) := I.hok dd _ h3
    obtain ⟨mA, hns, hr⟩ := hx
    obtain ⟨od, ho, hl⟩ := lookIn_ns hns
    refine ⟨some od, ⟨hget, hz.1, by unfold PySem.W.notCls; rw [hv] <;> rfl, by rw [hz.2]; exact ho⟩, fun v hv => ?_⟩
    obtain ⟨u', q1, q2⟩ := repF_lookup h2 hv
    obtain ⟨u, hu, ru⟩ := RelO.some_of (v := u') (o := mA f) (by rw [← q1]; exact hr f)
    exact ⟨od, u, u', rfl, by rw [hl, hu], ru, rep_mono sr.fr.le _ _ q2⟩
/-- e.f -/
theorem d_exf (he : PE (X.suite a ((a, oe) :: pn)) e (tD X.K Z W m)) (c : ExR X.K C) (noN : PySem.W.findIn X.K (.ref C) f = some none) (hz : Zc (.ref C) d oe) (hf : ∃ vs, oe.data = .fields vs) (xr : xrep X.K Z.g Z.H y (.ref C) d)
    (hb : attributeBase e f X.env (eval e X.env) = eval e X.env := by rfl) : PE (X.suite a ((a, oe) :: pn)) (.Attribute e f pos) (tD X.K Z W (exfM a y f m)) := by
  refine ⟨fun pins s σ H Q I ⟨s0, g, sr, q⟩ => ?_⟩
  refine attr_of hb (thn (he.run pins s σ H (fun v H1 => ∃ s1 g1 u, v = .ref a ∧ SRz X.K Z s1 g1 σ H1 ∧ y.fs.lookup f = some u ∧ EEnd X.K Z W g1 σ Q (.ok u s1)) I (goD isE sr q fun d1 s1 v1 H1 g1 l1 sr1 r1 e1 => ?_)) fun u sh hh => ?_)
  · obtain ⟨u, hu, e2⟩ := mopt_endE isE e1
    cases d1 with
    | fn b =>
      simp only at hu
      split at hu
      · rename_i hba
        subst hba
        exact ⟨s1, g1, u, r1, sr1, hu, e2⟩
      · cases hu
    | _ => cases hu
  · obtain ⟨v, H1, I1, rx, s1, g1, u1, rfl, sr1, hu, e2⟩ := hh
    obtain rfl : u = Value.ref a := rx
    obtain ⟨od, J, k⟩ := ex_inst (f := f) I1 sr1 hz hf xr
    obtain ⟨o, w1, w2, rfl, hl, rw1, rp⟩ := k u1 hu
    exact HandSPX.exc_get I1.kIn J c.ga c.gg c.exC (PySem.W.findObj_own c.hdC noN rfl hl) (handed_of rw1) ⟨w2, H1, I1.tok _, rw1, e2 _ _ _ (Gle.refl _) sr1 (repL_of rp)⟩
/-- isinstance(e, c) -/
theorem d_isx {cE : Expr} {cV : V} {cv : Value} {b : Bool} {p pos : Pos} (he : PE (X.suite a ((a, oe) :: pn)) e (tD X.K Z W m)) (c : ExR X.K C) (hz : Zc (.ref C) d oe) (hf : ∃ vs, oe.data = .fields vs) (xr : xrep X.K Z.g Z.H y (.ref C) d)
    (hc : PE (X.suite a ((a, oe) :: pn)) cE (tC cV)) (hcv : ∀ u, RelV cV u → u = cv) (hk : PySem.W.kitOne X.K (.ref C) cv = some b) (hg : Gl X "isinstance") (hm : X.mg "isinstance" = none)
    (hs : starEach (e :: cE :: []) X.env = (false, eval e X.env) :: starEach (cE :: []) X.env := by rfl) (hs2 : starEach (cE :: []) X.env = (false, eval cE X.env) :: starEach [] X.env := by rfl) (hpl : (backTo pos (starEach [cE] X.env)).any (·.1) = false := by rfl) :
    PE (X.suite a ((a, oe) :: pn)) (.Call (.Name "isinstance" p) [e, cE] [] pos) (tD X.K Z W (isxM a b m)) := by
  have call : CallR (X.suite a ((a, oe) :: pn)) (.builtin "isinstance") (fun xs H Q => xs = [.ref a, cV] ∧ (∃ s1 g1 σ, SRz X.K Z s1 g1 σ H) ∧ Q (.bl b) H) := by
    intro pins s σ H xs us Q I r hh
    obtain ⟨rfl, ⟨s1, g1, σ1, sr1⟩, q⟩ := hh
    obtain ⟨u1, u2, rfl, r1, r2⟩ := vals2 r
    obtain rfl : u1 = Value.ref a := r1
    have ec := hcv _ r2
    subst ec
    obtain ⟨od, J, _⟩ : ∃ od, PySem.W.InstAt s.heap a oe C od ∧ True := by
      obtain ⟨hget, _⟩ := I.pin (a, oe) (List.mem_append_left _ List.mem_cons_self)
      obtain ⟨vs, hv⟩ := hf
      obtain ⟨_, x2⟩ := xr
      cases hfs : y.fs with
      | nil =>
        rw [hfs] at x2
        subst x2
        exact ⟨none, ⟨hget, hz.1, by unfold PySem.W.notCls; rw [hv] <;> rfl, by rw [hz.2]; exact trivial⟩, trivial⟩
      | cons p ps =>
        rw [hfs] at x2
        obtain ⟨dd, us, rfl, h1, h2⟩ := x2
        have h3 : H dd = some (.xd us) := sr1.gr.sub _ _ (sr1.fr.le.1 _ _ h1)
        obtain ⟨mA, hns, hr⟩ := (show ObjOk X.prog X.w H s.heap dd (.xd us) from I.hok dd _ h3)
        obtain ⟨od, ho, hl⟩ := lookIn_ns hns
        exact ⟨some od, ⟨hget, hz.1, by unfold PySem.W.notCls; rw [hv] <;> rfl, by rw [hz.2]; exact ho⟩, trivial⟩
    exact PySem.W.kia_one (PySem.W.kitx_exc c.cl c.ga c.gg c.exC c.ha c.hn c.ht c.hm) I.kIn J hk (fun z => nomatch z) fun tk => ⟨.bl b, H, I.tok tk, rfl, q⟩
  refine PE.weak (pe_callB call hg hm (by decide +kernel) (pa_cons he (pa_cons hc pa_nil hs2) hs) (by decide) (by decide) hs hpl) fun σ H Q ⟨s0, g, sr, q⟩ => ?_
  refine goD isE sr q fun d1 s1 v1 H1 g1 l1 sr1 r1 e1 => ?_
  obtain ⟨u, hu, e2⟩ := mopt_endE isE e1
  cases d1 with
  | fn b' =>
    simp only at hu
    split at hu
    · rename_i hba
      subst hba
      cases hu
      obtain rfl : v1 = V.ref b' := r1
      exact ⟨rfl, ⟨s1, g1, σ, sr1⟩, e2 _ _ _ (Gle.refl _) sr1 (show rep X.K g1 (.bl b) (.bl b) from rfl)⟩
    · cases hu
  | _ => cases hu
end
end DL
end
section -- SZ
set_option Elab.async false
set_option linter.all false
set_option maxRecDepth 100000
set_option maxHeartbeats 1000000
/-! What the head tells of own errors; the rules with these words. -/
namespace DL
open PySem PySem.Spec L2 PySem.SupX
structure ErrD where
  cls : Str
  qual : Str
  params : Arguments
  body : List Stmt
  scope : Scope
  flds : List Str
abbrev ErrW : Type := Option (Str × Str × Arguments × FuncBody × Scope × Addr × List Str × Addr × Value)
def eI (K : PySem.W.Frag) (x : Str) : Addr := He.ma K (He.ga K x) "__init__"
def errW (K : PySem.W.Frag) (x : Str) : ErrW := match K.lookup (eI K x) with
  | some ⟨_, _, .func fd, _⟩ => some (fd.name, fd.qualname, fd.params, fd.body, fd.scope, fd.globals, fd.closure.map (·.1), fd.builtins, fd.defaults)
  | _ => none
def ErrD.val (d : ErrD) : ErrW := some ("__init__", d.qual, d.params, .stmts d.body, d.scope, mainGlobals, ["__class__"], builtinsNs, .none)
/-- the class object -/
def clsB (K : PySem.W.Frag) (C : Addr) : Bool := match K.lookup C with
  | some ⟨.type t, _, .cls cd, sl⟩ => decide (t = "type") && (cd.hasDict && (!cd.hasDel && (match cd.mro, sl.toList with
    | .ref C' :: bm, [_, _, _, _, some (.builtin n), _] => decide (C' = C) && (decide (n = "ValueError.__new__") && HandSPX.refsVE bm)
    | _, _ => false)))
  | _ => false
theorem clsB_ok {K : PySem.W.Frag} {C : Addr} (h : clsB K C = true) : ∃ nm q N bs bm sn sub ab col dd k0 k1 k2 k3 k5, K.lookup C = some (excClassObj nm q C N bs bm true sn sub ab col dd k0 k1 k2 k3 k5 "ValueError.__new__") ∧ HandSPX.refsVE bm = true := by
  unfold clsB at h
  split at h
  · rename_i t dd cd sl ho
    obtain ⟨h1, h⟩ := He.ba h
    obtain ⟨h2, h⟩ := He.ba h
    obtain ⟨h3, h⟩ := He.ba h
    split at h
    · rename_i C' bm k0 k1 k2 k3 n k5 em es
      obtain ⟨h4, h⟩ := He.ba h
      obtain ⟨h5, h6⟩ := He.ba h
      have e1 := of_decide_eq_true h1
      have e4 := of_decide_eq_true h4
      have e5 := of_decide_eq_true h5
      subst e1 e4 e5
      obtain ⟨nm, bs, mro, N, qn, hd, sn, sub, ab, col, del⟩ := cd
      dsimp only at em h2 h3
      have hdel : del = false := by cases del <;> first | rfl | cases h3
      subst em h2 hdel
      obtain ⟨l⟩ := sl
      have es' : l = [k0, k1, k2, k3, some (.builtin "ValueError.__new__"), k5] := es
      subst es'
      exact ⟨nm, qn, N, bs, bm, sn, sub, ab, col, dd, k0, k1, k2, k3, k5, ho, h6⟩
    · cases h
  · cases h
def eqB {α : Type} [DecidableEq α] (a b : α) : Bool := decide (a = b)
theorem eqB_ok {α : Type} [DecidableEq α] {a b : α} (h : eqB a b = true) : a = b := of_decide_eq_true h
def fndB (K : PySem.W.Frag) (C : Addr) (x : Str) (v : Option Value) : Bool := He.eqO (PySem.W.findIn K (.ref C) x) (some v)
def cellB (K : PySem.W.Frag) (C : Addr) (fd : FuncData) : Bool := fd.closure.all fun p => match K.lookup p.2 with
  | some ⟨_, _, .cell (some (.ref D)), _⟩ => decide (D = C)
  | _ => false
def codeB (K : PySem.W.Frag) (file : Str) (v : Value) : Bool := match v with
  | .ref a => (match K.lookup a with
    | some ⟨_, _, .fields vs, _⟩ => (match (vs[2]? : Option Value) with
      | some (.str f _) => decide (f = file)
      | _ => false)
    | _ => false)
  | _ => false
def funB (K : PySem.W.Frag) (file : Str) (d : ErrD) : Bool := match K.lookup (eI K d.cls) with
  | some ⟨_, _, .func fd, _⟩ => PySem.W.codeIn K fd.code d.qual && (cellB K (He.ga K d.cls) fd && codeB K file fd.code)
  | _ => false
def rowB (K : PySem.W.Frag) (C : Addr) : Bool := clsB K C && (PySem.W.excInitIn K C veT "ValueError.__new__" && (fndB K C "__setattr__" (some (.builtin "object.__setattr__")) && (fndB K C "__getattribute__" (some (.builtin "BaseException.__getattribute__")) &&
  (fndB K C "__getattr__" none && (PySem.W.keepIn K (.ref C) && (eqB (PySem.W.subIn K (.ref C) (.type "BaseException")) (some true) && (eqB (PySem.W.subIn K (.ref C) (.type "ValueError")) (some true) &&
  (eqB (PySem.W.typeIn K (.ref C)) (some (.type "type")) && (PySem.W.hasDictIn K C && eqB (PySem.W.mroIn K C (.ref C)) (some true))))))))))
def rowB2 (K : PySem.W.Frag) (C : Addr) : Bool := He.eqO (PySem.W.nsIn K cStatics "thirdparty.any") (some none) && (He.eqO (PySem.W.ks_superIn K C C "__init__") (some (some (.builtin "ValueError.__init__"))) && (He.eqO (PySem.W.nsIn K mainGlobals "super") (some none) &&
  ((PySem.W.clsIn K C).isSome && (fndB K C "__class__" (some (.builtin "object.__class__")) && (He.eqO (PySem.W.specialIn K (.builtin "object.__class__") "__get__") (some (some (.builtin "getset_descriptor.__get__"))) &&
  (eqB (PySem.W.takesIn K (.builtin "object.__class__")) (some true) && eqB (PySem.W.mroIn K C (.type "object")) (some true)))))))
def errB (K : PySem.W.Frag) (file : Str) (d : ErrD) : Bool := rowB K (He.ga K d.cls) && (rowB2 K (He.ga K d.cls) && (fndB K (He.ga K d.cls) "__init__" (some (.ref (eI K d.cls))) && (eqB (PySem.W.typeIn K (.ref (eI K d.cls))) (some (.type "function")) &&
  (funB K file d && d.flds.all fun f => fndB K (He.ga K d.cls) f none))))
theorem one_clo {K : PySem.W.Frag} {C : Addr} {fd : FuncData} (h : cellB K C fd = true) (e : fd.closure.map (·.1) = [("__class__" : Str)]) : ∃ cc : Addr, fd.closure = [(("__class__" : Str), cc)] ∧ ∃ (cl : Value) (cld : Option Addr) (csl : Array (Option Value)), K.lookup cc = some ⟨cl, cld, .cell (some (.ref C)), csl⟩ := by
  cases q : fd.closure with
  | nil => rw [q] at e; cases e
  | cons p r =>
    rw [q] at e
    injection e with e1 e2
    cases r with
    | cons _ _ => cases e2
    | nil =>
      obtain ⟨n, cc⟩ := p
      have e1 : n = ("__class__" : Str) := e1
      subst e1
      refine ⟨cc, rfl, ?_⟩
      unfold cellB at h
      rw [q] at h
      have h2 := List.all_eq_true.mp h ("__class__", cc) List.mem_cons_self
      simp only at h2
      split at h2
      · rename_i cl cld D csl ho
        have e := of_decide_eq_true h2
        subst e
        exact ⟨cl, cld, csl, ho⟩
      · cases h2
theorem errB_ok {K : PySem.W.Frag} {file : Str} {d : ErrD} {P : Program} (h : errB K file d = true) (hv : errW K d.cls = d.val) (hfile : ((P.main.file : Str) == file) = true) (htop : (P.main.scope.names.lookup ("super" : Str)).isSome = false) :
    (∃ cda cc, ErrTxt P K (He.ga K d.cls) (eI K d.cls) cda cc d.qual d.params d.body d.scope) ∧ ExR K (He.ga K d.cls) ∧ ∀ f ∈ d.flds, PySem.W.findIn K (.ref (He.ga K d.cls)) f = some none := by
  obtain ⟨hr, h⟩ := He.ba h
  obtain ⟨hr2, h⟩ := He.ba h
  obtain ⟨iC, h⟩ := He.ba h
  obtain ⟨tC, h⟩ := He.ba h
  obtain ⟨hfun, hfl⟩ := He.ba h
  obtain ⟨cls, hr⟩ := He.ba hr
  obtain ⟨exI, hr⟩ := He.ba hr
  obtain ⟨sa, hr⟩ := He.ba hr
  obtain ⟨ga, hr⟩ := He.ba hr
  obtain ⟨gg, hr⟩ := He.ba hr
  obtain ⟨kC, hr⟩ := He.ba hr
  obtain ⟨exC, hr⟩ := He.ba hr
  obtain ⟨ve, hr⟩ := He.ba hr
  obtain ⟨tyC, hr⟩ := He.ba hr
  obtain ⟨hdC, me⟩ := He.ba hr
  obtain ⟨any, hr2⟩ := He.ba hr2
  obtain ⟨si, hr2⟩ := He.ba hr2
  obtain ⟨nos, hr2⟩ := He.ba hr2
  obtain ⟨cl, hr2⟩ := He.ba hr2
  obtain ⟨ha, hr2⟩ := He.ba hr2
  obtain ⟨hn, hr2⟩ := He.ba hr2
  obtain ⟨ht, hm⟩ := He.ba hr2
  refine ⟨?_, ⟨He.eqO_ok ga, He.eqO_ok gg, eqB_ok exC, hdC, cl, He.eqO_ok ha, He.eqO_ok hn, eqB_ok ht, eqB_ok hm⟩, fun f hf => He.eqO_ok (List.all_eq_true.mp hfl f hf)⟩
  unfold funB at hfun
  unfold errW at hv
  split at hfun
  · rename_i oc od fd osl ho
    obtain ⟨hc, hfun⟩ := He.ba hfun
    obtain ⟨hcell, hcode⟩ := He.ba hfun
    rw [ho] at hv
    obtain ⟨n1, n2, n3, n4, n5, n6, n7, n8, n9, n10, n11, n12, n13, n14, n15⟩ := fd
    have e2 : (some (n1, n2, n3, n4, n5, n6, n7.map (·.1), n15, n8) : ErrW) = some (("__init__" : Str), d.qual, d.params, FuncBody.stmts d.body, d.scope, mainGlobals, [("__class__" : Str)], builtinsNs, Value.none) := hv
    simp only [Option.some.injEq, Prod.mk.injEq] at e2
    obtain ⟨h1, h2, h3, h4, h5, h6, h7, h8, h9⟩ := e2
    obtain ⟨cc, hcl, hcc⟩ := one_clo hcell h7
    have hcl : n7 = [(("__class__" : Str), cc)] := hcl
    subst h1 h2 h3 h4 h5 h6 hcl h8 h9
    unfold codeB at hcode
    split at hcode
    · rename_i cda hn13
      have hn13 : n13 = .ref cda := hn13
      subst hn13
      split at hcode
      · rename_i q1 q2 vs q3 hcd
        split at hcode
        · rename_i f tf hvs
          have ef := of_decide_eq_true hcode
          subst ef
          exact ⟨cda, cc, clsB_ok cls, exI, He.eqO_ok sa, He.eqO_ok ga, He.eqO_ok gg, He.eqO_ok iC, eqB_ok tC, kC, eqB_ok exC, eqB_ok ve, eqB_ok tyC, hdC, eqB_ok me, He.eqO_ok any, He.eqO_ok si, He.eqO_ok nos, htop,
            ⟨oc, od, _, _, _, _, _, osl, ho, hc⟩, hcc, ⟨q1, q2, vs, q3, _, tf, hcd, hvs, hfile⟩⟩
        · cases hcode
      · cases hcode
    · cases hcode
  · cases hfun
/-- a class by its name: own or built-in -/
inductive Cn where
  | own (x : Str) | blt (n : String)
def Cn.v (K : PySem.W.Frag) : Cn → Value
  | .own x => .ref (He.ga K x)
  | .blt n => .type n
structure KitD where
  cls : Str
  of : Cn
  yes : Bool
def kitB' (K : PySem.W.Frag) (d : KitD) : Bool := decide (PySem.W.kitOne K (.ref (He.ga K d.cls)) (d.of.v K) = some d.yes)
/-! ### the hook -/
abbrev AlX : Type := (He.AlT × Bool) × List ErrW
def kX (n : Nat) (g : Addr → Option Obj) : PySem.W.Frag := He.frG g (He.asD g n ++ [cStatics])
def exX (ex : PySem.W.Frag → Bool) (er : List ErrD) (ks : List KitD) (file : Str) (K : PySem.W.Frag) : Bool := ex K && (er.all (errB K file) && ks.all (kitB' K))
def obX (n : Nat) (fa : List He.Fa) (fn : List He.DefD) (ts : List He.Tab) (ex : PySem.W.Frag → Bool) (er : List ErrD) (ks : List KitD) (file : Str) (g : Addr → Option Obj) : AlX :=
  ((He.obsT fa fn ts (kX n g), exX ex er ks file (kX n g)), er.map fun d => errW (kX n g) d.cls)
def hookX (n : Nat) (fa : List He.Fa) (fn : List He.DefD) (ts : List He.Tab) (ex : PySem.W.Frag → Bool) (er : List ErrD) (ks : List KitD) (file : Str) : PySem.W.Hook where
  α := AlX
  obs := fun s => obX n fa fn ts ex er ks file s.heap.get?
  val := fun w => ((He.valT fn ts w, true), er.map ErrD.val)
  says := fun w h => ∃ K : PySem.W.Frag, K.In h ∧ He.SaysT fa fn ts w K ∧ exX ex er ks file K = true ∧ er.map (fun d => errW K d.cls) = er.map ErrD.val
  of := fun _ _ e => ⟨_, He.frG_in, congrArg (fun z : AlX => z.1.1) e, congrArg (fun z : AlX => z.1.2) e, congrArg (fun z : AlX => z.2) e⟩
  keeps := fun _ _ _ ⟨K, hK, c⟩ k => ⟨K, PySem.W.Frag.In.keeps hK k, c⟩
theorem obX_eq {n : Nat} {fa : List He.Fa} {fn : List He.DefD} {ts : List He.Tab} {ex : PySem.W.Frag → Bool} {er : List ErrD} {ks : List KitD} {file : Str} {g : Addr → Option Obj} {s : Shared} (h : ∀ a, g a = s.heap.get? a) : obX n fa fn ts ex er ks file g = (hookX n fa fn ts ex er ks file).obs s := by
  have e : g = s.heap.get? := funext h
  rw [e] <;> rfl
structure TxP (P : Program) (fa : List He.Fa) (fn : List He.DefD) (ts : List He.Tab) (ex : PySem.W.Frag → Bool) (er : List ErrD) (ks : List KitD) (file : Str) (w : World) (K : PySem.W.Frag) (mg : Str → Option Value) : Prop extends TxG fa fn ts ex w K mg where
  errs : er.map (fun d => errW K d.cls) = er.map ErrD.val
  eb : er.all (errB K file) = true
  kt : ks.all (kitB' K) = true
  file : ((P.main.file : Str) == file) = true
  top : (P.main.scope.names.lookup ("super" : Str)).isSome = false
section
variable {P : Program} {fa : List He.Fa} {fnl : List He.DefD} {ts : List He.Tab} {ex : PySem.W.Frag → Bool} {er : List ErrD} {ks : List KitD} {file : Str} {w : World} {K : PySem.W.Frag} {mg : Str → Option Value}
theorem TxP.mk' (T : TxG fa fnl ts (exX ex er ks file) w K mg) (errs : er.map (fun d => errW K d.cls) = er.map ErrD.val) (hf : ((P.main.file : Str) == file) = true) (ht : (P.main.scope.names.lookup ("super" : Str)).isSome = false) : TxP P fa fnl ts ex er ks file w K mg := by
  obtain ⟨h1, h⟩ := He.ba T.vals
  obtain ⟨h2, h3⟩ := He.ba h
  exact ⟨⟨T.at_, T.says, h1⟩, errs, h2, h3, hf, ht⟩
theorem TxP.err (T : TxP P fa fnl ts ex er ks file w K mg) (i : Nat) {d : ErrD} (h : er[i]? = some d) :
    (∃ cda cc, ErrTxt P K (He.ga K d.cls) (eI K d.cls) cda cc d.qual d.params d.body d.scope) ∧ ExR K (He.ga K d.cls) ∧ ∀ f ∈ d.flds, PySem.W.findIn K (.ref (He.ga K d.cls)) f = some none := by
  have e2 : (er.map fun d => errW K d.cls)[i]? = (er.map ErrD.val)[i]? := by rw [T.errs]
  rw [List.getElem?_map, List.getElem?_map, h] at e2
  exact errB_ok (List.all_eq_true.mp T.eb d (List.mem_of_getElem? h)) (Option.some.inj e2) T.file T.top
theorem TxP.kit (T : TxP P fa fnl ts ex er ks file w K mg) (i : Nat) {d : KitD} (h : ks[i]? = some d) : PySem.W.kitOne K (.ref (He.ga K d.cls)) (d.of.v K) = some d.yes :=
  of_decide_eq_true (List.all_eq_true.mp T.kt d (List.mem_of_getElem? h))
theorem TxP.exm (T : TxP P fa fnl ts ex er ks file w K mg) (i : Nat) {x y : Str} {b : Bool} (h : fa[i]? = some (.exm x y b)) : PySem.W.exmOne K (.ref (He.ga K x)) (.ref (He.ga K y)) = some b := He.exm_ok (T.says.d.fact i h)
end
/-! ### parts of an error's text -/
def eMsg (b : List Stmt) : Expr := match b with
  | .Expr (.Call _ (m :: _) _ _) _ :: _ => m
  | _ => .Constant .none 0 ⟨0, 0, 0, 0⟩
def ePos (b : List Stmt) (i : Nat) : Pos := match b with
  | .Expr (.Call (.Attribute (.Call (.Name _ p1) _ _ p2) _ p3) _ _ p4) p5 :: r => (match i, r with
    | 0, _ => p1
    | 1, _ => p2
    | 2, _ => p3
    | 3, _ => p4
    | 4, _ => p5
    | 5, .Assign [.Attribute (.Name _ q1) _ _] _ _ :: _ => q1
    | 6, .Assign [.Attribute (.Name _ _) _ q2] _ _ :: _ => q2
    | 7, .Assign [.Attribute (.Name _ _) _ _] (.Name _ q3) _ :: _ => q3
    | 8, .Assign [.Attribute (.Name _ _) _ _] _ q4 :: _ => q4
    | _, _ => ⟨0, 0, 0, 0⟩)
  | _ => ⟨0, 0, 0, 0⟩
/-- a small int -/
def okI : D → Bool
  | .int i => decide (i.natAbs < 2 ^ 60)
  | _ => false
def okV : V → Prop := fun v => ∃ i : Int, v = .int i ∧ i.natAbs.log2 < 1920
theorem okI_ok {K : PySem.W.Frag} (d : D) (v : V) (g : Gh) (r : rep K g d v) (h : okI d = true) : okV v := by
  cases d with
  | int i =>
    have r : v = .int i := r
    have h := of_decide_eq_true h
    refine ⟨i, r, ?_⟩
    by_cases z : i.natAbs = 0
    · rw [z]; decide
    · exact Nat.lt_trans ((Nat.log2_lt z).mpr h) (by decide)
  | _ => cases h
/-! ### a list put together, owned -/
def addF (m1 m2 : M D) : M Own := mb m1 fun a => mb m2 fun b => mopt fun s => match rdL s a, rdL s b with | some x, some y => if x.length + y.length ≤ sizeLine then some (.lst (x ++ y)) else none | _, _ => none
section
variable {X : Cx} {Z : En} {W : WX} {a b : Expr} {m1 m2 : M D} {pos : Pos}
theorem f_addL (ha : PE X a (tD X.K Z W m1)) (hb : PE X b (tD X.K Z W m2)) : PE X (.BinOp a .Add b pos) (tF X.K Z W (addF m1 m2)) :=
  PE.weak (pe_op op_cat ha hb) fun σ H Q ⟨s, g, sr, e⟩ => goD isF sr e fun d1 s1 v1 H1 g1 l1 sr1 r1 e1 => goD isF sr1 e1 fun d2 s2 v2 H2 g2 l2 sr2 r2 e2 => by
    obtain ⟨o, ho, q⟩ := mopt_endE isF e2
    cases h1 : rdL s2 d1 with
    | none => rw [h1] at ho; cases ho
    | some xs =>
      cases h2 : rdL s2 d2 with
      | none => rw [h1, h2] at ho; cases ho
      | some ys =>
        rw [h1, h2] at ho
        simp only at ho
        split at ho
        · rename_i hh
          cases ho
          obtain ⟨p, vs, e1, e2, e3⟩ := rdL_ok sr2 (repL_mono l2 r1) h1
          obtain ⟨p', vs', e1', e2', e3'⟩ := rdL_ok sr2 r2 h2
          exact ⟨p, p', vs, vs', e1, e1', e2, e2', by rw [reps_length e3, reps_length e3']; exact hh, fun n hn => q n _ _ g2 (Gle.refl _) sr2 hn ⟨vs ++ vs', rfl, reps_append e3 e3'⟩⟩
        · cases ho
end
end DL
end
section -- K2
set_option Elab.async false
set_option linter.all false
set_option maxRecDepth 100000
set_option maxHeartbeats 4000000
namespace K02
open PySem PySem.Spec L2 DL
noncomputable section
def topS (i : Nat) : Stmt := PySem.Challenge.pw_commentedout_k02_tongues_refused.main.body.getD i (.Pass ⟨0, 0, 0, 0⟩)
def d_is_mark : He.DefD := ⟨("is_mark", none), "is_mark", "is_mark", defArgs (topS 17), defBody (topS 17), defScope (topS 17), [], []⟩
def d_lines_of : He.DefD := ⟨("lines_of", none), "lines_of", "lines_of", defArgs (topS 18), defBody (topS 18), defScope (topS 18), [], []⟩
def d_Rule___init__ : He.DefD := ⟨("Rule", some "__init__"), "__init__", "Rule.__init__", defArgs (inClass (topS 22) 0), defBody (inClass (topS 22) 0), defScope (inClass (topS 22) 0), [], []⟩
def d_options_of : He.DefD := ⟨("options_of", none), "options_of", "options_of", defArgs (topS 23), defBody (topS 23), defScope (topS 23), [], []⟩
def d_rule_of : He.DefD := ⟨("rule_of", none), "rule_of", "rule_of", defArgs (topS 24), defBody (topS 24), defScope (topS 24), [], []⟩
def d_read_rules : He.DefD := ⟨("read_rules", none), "read_rules", "read_rules", defArgs (topS 27), defBody (topS 27), defScope (topS 27), [], []⟩
def d_Tongue___init__ : He.DefD := ⟨("Tongue", some "__init__"), "__init__", "Tongue.__init__", defArgs (inClass (topS 28) 0), defBody (inClass (topS 28) 0), defScope (inClass (topS 28) 0), [], []⟩
def d__law_begun_pen : He.DefD := ⟨("_law_begun_pen", none), "_law_begun_pen", "_law_begun_pen", defArgs (topS 30), defBody (topS 30), defScope (topS 30), [], []⟩
def d__law_draw : He.DefD := ⟨("_law_draw", none), "_law_draw", "_law_draw", defArgs (topS 31), defBody (topS 31), defScope (topS 31), [], []⟩
def d__law_pick : He.DefD := ⟨("_law_pick", none), "_law_pick", "_law_pick", defArgs (topS 32), defBody (topS 32), defScope (topS 32), [], []⟩
def d__law_shuffled : He.DefD := ⟨("_law_shuffled", none), "_law_shuffled", "_law_shuffled", defArgs (topS 33), defBody (topS 33), defScope (topS 33), [], []⟩
def d__law_rule_text : He.DefD := ⟨("_law_rule_text", none), "_law_rule_text", "_law_rule_text", defArgs (topS 34), defBody (topS 34), defScope (topS 34), [], []⟩
def d__law_mark_signs : He.DefD := ⟨("_law_mark_signs", none), "_law_mark_signs", "_law_mark_signs", defArgs (topS 35), defBody (topS 35), defScope (topS 35), [], []⟩
def d__law_new_mark : He.DefD := ⟨("_law_new_mark", none), "_law_new_mark", "_law_new_mark", defArgs (topS 36), defBody (topS 36), defScope (topS 36), [], []⟩
def d__law_new_rule : He.DefD := ⟨("_law_new_rule", none), "_law_new_rule", "_law_new_rule", defArgs (topS 37), defBody (topS 37), defScope (topS 37), [], []⟩
def d__law_wrong_lines : He.DefD := ⟨("_law_wrong_lines", none), "_law_wrong_lines", "_law_wrong_lines", defArgs (topS 38), defBody (topS 38), defScope (topS 38), [], []⟩
def d__law_told : He.DefD := ⟨("_law_told", none), "_law_told", "_law_told", defArgs (topS 39), defBody (topS 39), defScope (topS 39), [], []⟩
def d__law_near_lines : He.DefD := ⟨("_law_near_lines", none), "_law_near_lines", "_law_near_lines", defArgs (topS 40), defBody (topS 40), defScope (topS 40), [], []⟩
def d_law : He.DefD := ⟨("law", none), "law", "law", defArgs (topS 41), defBody (topS 41), defScope (topS 41), [], []⟩
def fn : List He.DefD := ([d_is_mark, d_lines_of, d_Rule___init__, d_options_of, d_rule_of, d_read_rules, d_Tongue___init__, d__law_begun_pen, d__law_draw, d__law_pick, d__law_shuffled, d__law_rule_text, d__law_mark_signs, d__law_new_mark, d__law_new_rule, d__law_wrong_lines] : List He.DefD) ++ ([d__law_told, d__law_near_lines, d_law] : List He.DefD)
def fa : List He.Fa := ([.glo "_wall", .glo "may_grow", .glo "opening_step", .glo "mark_step", .glo "inner_step", .glo "one_step", .glo "pieces_in", .glo "is_mark", .glo "lines_of", .glo "options_of", .glo "rule_of", .glo "read_rules", .glo "_law_begun_pen", .glo "_law_draw", .glo "_law_pick", .glo "_law_shuffled"] : List He.Fa) ++ ([.glo "_law_rule_text", .glo "_law_mark_signs", .glo "_law_new_mark", .glo "_law_new_rule", .glo "_law_wrong_lines", .glo "_law_told", .glo "_law_near_lines", .glo "law", .glo "Rule", .cls "Rule", .mkr "Rule", .noat "Rule" "letter", .noat "Rule" "opening", .noat "Rule" "closing", .noat "Rule" "most", .noat "Rule" "escape"] : List He.Fa) ++ ([.noat "Rule" "is_doubled", .noat "Rule" "ends_at_lines", .glo "Tongue", .cls "Tongue", .mkr "Tongue", .noat "Tongue" "text", .noat "Tongue" "rules", .noat "Tongue" "forms", .meth "Tongue" "kinds", .meth "Tongue" "is_open", .int "OUTSIDE" (-1), .int "WINDOW" (8), .str "MARK_SIGNS" "!\"#$&'()*+,-./:;<=>?@\x5b\\]^`{|}~", .int "LONGEST_MARK" (4), .str "TO_LINE" "line", .int "MOST_RULES" (6)] : List He.Fa) ++ ([.glo "LETTERS", .free "abs", .free "all", .free "any", .free "enumerate", .free "int", .free "isinstance", .free "len", .free "list", .free "max", .free "min", .free "range", .free "str", .free "tuple", .glo "BadTongue", .glo "RemarkError"] : List He.Fa) ++ ([.free "ValueError", .glo "BadCommand", .exm "BadTongue" "BadTongue" true] : List He.Fa)
def ks_LETTERS : List Str := ["remark", "quote"]
def kv_LETTERS : List (Str × Str) := [("remark", "r"), ("quote", "q")]
def has_LETTERS : List Nat → Bool := tabHas ks_LETTERS
def get_LETTERS : List Nat → Option D := tabGet kv_LETTERS
def ts : List He.Tab := [(fun K => He.ga K "LETTERS", ks_LETTERS)]
def exB (K : PySem.W.Frag) : Bool := He.valsB K (He.ga K "LETTERS") (kv_LETTERS.map fun p => (p.1, He.Dv.str p.2))
def er_BadTongue : ErrD := ⟨"BadTongue", "BadTongue.__init__", defArgs (inClass (topS 3) 0), defBody (inClass (topS 3) 0), defScope (inClass (topS 3) 0), ["line"]⟩
def er : List ErrD := [er_BadTongue]
def ks : List KitD := [⟨"BadTongue", .own "RemarkError", true⟩, ⟨"BadTongue", .blt "ValueError", true⟩, ⟨"BadTongue", .own "BadCommand", false⟩]
def fileT : Str := "/claim/cut.py"
abbrev Tx (P : Program) (w : World) (K : PySem.W.Frag) (mg : Str → Option Value) : Prop := TxP P fa fn ts exB er ks fileT w K mg
def fuel : Nat := 100000
section
variable {P : Program} {w : World} {K : PySem.W.Frag} {mg : Str → Option Value} {base : Heap}
theorem eb_BadTongue : defBody (inClass (topS 3) 0) = [PySem.SupX.supSt (eMsg (defBody (inClass (topS 3) 0))) (ePos (defBody (inClass (topS 3) 0)) 0) (ePos (defBody (inClass (topS 3) 0)) 1) (ePos (defBody (inClass (topS 3) 0)) 2) (ePos (defBody (inClass (topS 3) 0)) 3) (ePos (defBody (inClass (topS 3) 0)) 4), PySem.SupX.stoSt "line" (ePos (defBody (inClass (topS 3) 0)) 5) (ePos (defBody (inClass (topS 3) 0)) 6) (ePos (defBody (inClass (topS 3) 0)) 7) (ePos (defBody (inClass (topS 3) 0)) 8)] := by rfl
theorem es_BadTongue : PySem.SupX.ErrScope (defArgs (inClass (topS 3) 0)) (defScope (inClass (topS 3) 0)) := ⟨⟨_, rfl, rfl⟩, rfl, rfl, rfl, rfl, by decide +kernel, rfl, rfl⟩
theorem ef_BadTongue : PySem.SupX.SupForm (defScope (inClass (topS 3) 0)) (eMsg (defBody (inClass (topS 3) 0))) (ePos (defBody (inClass (topS 3) 0)) 0) (ePos (defBody (inClass (topS 3) 0)) 1) (ePos (defBody (inClass (topS 3) 0)) 2) (ePos (defBody (inClass (topS 3) 0)) 3) (ePos (defBody (inClass (topS 3) 0)) 4) := ⟨fun _ _ _ _ _ => rfl, fun _ _ _ _ _ => rfl, fun _ _ _ _ _ => ⟨_, rfl⟩, fun _ _ _ _ _ => rfl⟩
theorem em_BadTongue (v : V) (v' : Value) (r : RelV v v') (h : okV v) : PySem.SupX.Msg P w (defScope (inClass (topS 3) 0)) (eMsg (defBody (inClass (topS 3) 0))) "line" v' := by
  obtain ⟨i, rfl, hi⟩ := h
  obtain ⟨t, rfl⟩ := r
  exact PySem.SupX.msg_abc (a := "line ") (b := " of the tongue is wrong") hi (by decide) (by decide) rfl rfl rfl
theorem ed_BadTongue (s : Shared) (fd : FuncData) (y : Addr) (v : Value) (h : fd.params = defArgs (inClass (topS 3) 0)) (h2 : fd.defaults = .none) : BindsTo s fd ⟨[.ref y, v], []⟩ [("self", .ref y), ("line", v)] := by
  obtain ⟨n1, n2, n3, n4, n5, n6, n7, n8, n9, n10, n11, n12, n13, n14, n15⟩ := fd
  dsimp only at h h2
  subst h h2
  exact .of_eq rfl
theorem ew_BadTongue (q : Str) (L a cc : Addr) (cd : Value) : swapsWith (.Name "line" (ePos (defBody (inClass (topS 3) 0)) 7)) (some (.Attribute (.Name "self" (ePos (defBody (inClass (topS 3) 0)) 5)) "line" (ePos (defBody (inClass (topS 3) 0)) 6))) (ePos (defBody (inClass (topS 3) 0)) 8).line (PySem.W.ksEnv q (defScope (inClass (topS 3) 0)) L a cd cc) = pure false := rfl
theorem ew2_BadTongue (T : Tx P w K mg) : ∃ cda cc, PySem.SupX.ErrTxt P K (He.ga K "BadTongue") (eI K "BadTongue") cda cc "BadTongue.__init__" (defArgs (inClass (topS 3) 0)) [PySem.SupX.supSt (eMsg (defBody (inClass (topS 3) 0))) (ePos (defBody (inClass (topS 3) 0)) 0) (ePos (defBody (inClass (topS 3) 0)) 1) (ePos (defBody (inClass (topS 3) 0)) 2) (ePos (defBody (inClass (topS 3) 0)) 3) (ePos (defBody (inClass (topS 3) 0)) 4), PySem.SupX.stoSt "line" (ePos (defBody (inClass (topS 3) 0)) 5) (ePos (defBody (inClass (topS 3) 0)) 6) (ePos (defBody (inClass (topS 3) 0)) 7) (ePos (defBody (inClass (topS 3) 0)) 8)] (defScope (inClass (topS 3) 0)) := by
  have h := (T.err 0 (d := er_BadTongue) rfl).1
  rw [← eb_BadTongue]
  exact h
theorem rm_BadTongue {X : Cx} (T : Tx X.prog X.w X.K X.mg) {k : Nat} {a : Expr} {p pos : Pos} {ta : TA} (hr : Room (k + 1) X.A) (ha : PA X [a] ta) (hg : Gl X "BadTongue") (he : starEach (a :: []) X.env = (false, eval a X.env) :: starEach [] X.env := by rfl) (hpl : (backTo pos (starEach [] X.env)).any (·.1) = false := by rfl) :
    PMk X (.Call (.Name "BadTongue" p) [a] [] pos) (fun σ H Q => ta σ H fun vs H1 => ∃ v, vs = [v] ∧ okV v ∧ ∀ d, H1 d = none → Q (.ref (He.ga X.K "BadTongue")) (some d) (upd H1 d (.xd [("line", v)]))) := by
  obtain ⟨cda, cc, h⟩ := ew2_BadTongue T
  exact pmk1 h es_BadTongue ef_BadTongue ((T.err 0 (d := er_BadTongue) rfl).2.2 "line" List.mem_cons_self) rfl rfl rfl ew_BadTongue ed_BadTongue em_BadTongue (T.glo 62 rfl) hr ha hg (by decide) he hpl
theorem kd_LETTERS (T : Tx P w K mg) : ∃ es n, KDict K w (He.ga K "LETTERS") es n := T.kd 0 (t := (fun K => He.ga K "LETTERS", ks_LETTERS)) rfl
theorem thas_LETTERS (T : Tx P w K mg) (z : List Nat) : ∃ r, PySem.W.nsIn K (He.ga K "LETTERS") (sx z) = some r ∧ r.isSome = has_LETTERS z := tab_has (T.tab 0 (t := (fun K => He.ga K "LETTERS", ks_LETTERS)) rfl) z
theorem tget_LETTERS (T : Tx P w K mg) (z : List Nat) (d : D) (e : get_LETTERS z = some d) : ∃ v, KDct K w (He.ga K "LETTERS") (sx z) v ∧ ∀ g, rep K g d v := tab_get (kd_LETTERS T).choose_spec.choose_spec T.vals z d e
def m_is_mark (ga : Str → Addr) : M Fl := (retM (andV (chnD fLe fLe (mret (D.int 1)) (calM lenD (aCons (vr 0) aNil)) (mret (D.int (4)))) (calM (boolsD fun bs => bs.all id) (aCons (frz (lcM (anyI (vr 0)) [1] (gN 1) yesM (binD (inA false) (vr 1) (mret (D.str (cs "!\"#$&'()*+,-./:;<=>?@\x5b\\]^`{|}~")))))) aNil))))
def F_is_mark (ga : Str → Addr) : FD := runB 2 (m_is_mark ga)
theorem sc_is_mark : FnScope ["word", "sign"] ["word"] (defScope (topS 17)) := ⟨rfl, rfl, rfl, by decide +kernel, rfl, by decide +kernel, by decide +kernel⟩
theorem ok_is_mark (T : Tx P w K mg) : ∃ fd, Binds K fd ["word"] [] ∧ PySem.W.keepIn K (.ref (He.ga K "is_mark")) = true ∧ FnOk P w K mg base (L2.CX P w) 1 (He.ga K "is_mark") fd ["word"] (spF K 1 (F_is_mark (He.ga K))) := by
  obtain ⟨fd, F⟩ := T.fn 0 (at_ := ("is_mark", none)) (n := "is_mark") (q := "is_mark") (st := (topS 17)) rfl
  have b := F.binds (ps := ["word"]) fun _ _ _ _ _ _ us hl => match us, hl with | [_], _ => rfl
  exact ⟨fd, b, F.kp, fnD F sc_is_mark rfl (by decide) (fun cdv A outer s H E Z o => (show _ from
   (s_one (s_ret (d_and (d_chn op_le od_le op_le od_le d_int (d_callB call_len cd_len (by rfl) (T.free 55 rfl) (by decide +kernel) (da_cons (dv 0) da_nil)) (d_gint (by rfl) (T.int 45 rfl))) (d_one (d_callB (cr_all (by exact o.calm)) cd_all (by rfl) (T.free 50 rfl) (by decide +kernel) (da_cons (d_frz (f_lcC [("sign", 1)] (by exact o.calm) (by exact o.nd) (i_c (i_any (dv 0))) (show BlkOk ["word", "sign"] (defScope (topS 17)) _ [("sign", 1)] from ⟨rfl, by decide +kernel, by decide +kernel, by decide +kernel, by decide +kernel⟩) (by decide) (fun s1 H1 C1 cl1 fp1 Z => (g_name (i := 1) (by exact o.nd) rfl (by first | exact .inl rfl | exact .inr rfl))) (fun s1 H1 C1 cl1 fp1 Z => (d_cmp (op_inA (o.blk s1 H1 _ _ fp1).hu) od_inA (dv 1) (d_gstr (by rfl) (T.str 44 rfl)) (by rfl))))) da_nil)))))))) fun _ _ _ => .inr rfl⟩
def m_lines_of (ga : Str → Addr) : M Fl := (retM (ifD (tstB (binD eqD (vr 0) (mret (D.str (cs ""))))) (frz (lstM aNil)) (sm1 splitD (vr 0) (mret (D.str (cs "\n"))))))
def F_lines_of (ga : Str → Addr) : FD := runB 1 (m_lines_of ga)
theorem sc_lines_of : FnScope ["text"] ["text"] (defScope (topS 18)) := ⟨rfl, rfl, rfl, by decide +kernel, rfl, by decide +kernel, by decide +kernel⟩
theorem ok_lines_of (T : Tx P w K mg) : ∃ fd, Binds K fd ["text"] [] ∧ PySem.W.keepIn K (.ref (He.ga K "lines_of")) = true ∧ FnOk P w K mg base (L2.CX P w) 1 (He.ga K "lines_of") fd ["text"] (spF K 1 (F_lines_of (He.ga K))) := by
  obtain ⟨fd, F⟩ := T.fn 1 (at_ := ("lines_of", none)) (n := "lines_of") (q := "lines_of") (st := (topS 18)) rfl
  have b := F.binds (ps := ["text"]) fun _ _ _ _ _ _ us hl => match us, hl with | [_], _ => rfl
  exact ⟨fd, b, F.kp, fnD F sc_lines_of rfl (by decide) (fun cdv A outer s H E Z o => (show _ from
   (s_one (s_ret (d_if (t_cmp (op_eqS o.hu) od_eq (dv 0) d_str (by rfl)) (d_frz (f_lst da_nil)) (d_m1 PySem.F.slot_str_split PySem.F.type_str_split mt_split md_split (dv 0) d_str)))))) fun _ _ _ => .inr rfl⟩
def m_Rule___init__ (ga : Str → Addr) : M Fl := (sq (fldS (ga "Rule") "letter" (vr 0) (vr 1))
 (sq (fldS (ga "Rule") "opening" (vr 0) (vr 2))
 (sq (fldS (ga "Rule") "closing" (vr 0) (vr 3))
 (sq (fldS (ga "Rule") "most" (vr 0) (binD dgetD (vr 4) (mret (D.str (cs "nested")))))
 (sq (fldS (ga "Rule") "escape" (vr 0) (binD dgetD (vr 4) (mret (D.str (cs "escape")))))
 (sq (fldS (ga "Rule") "is_doubled" (vr 0) (binD dgetD (vr 4) (mret (D.str (cs "doubled")))))
 (fldS (ga "Rule") "ends_at_lines" (vr 0) (orV (binD dgetD (vr 4) (mret (D.str (cs "line")))) (binD eqD (vr 3) (mret (D.str (cs ""))))))))))))
def F_Rule___init__ (ga : Str → Addr) : FI := runI 5 (ga "Rule") (m_Rule___init__ ga)
theorem sc_Rule___init__ : FnScope ["self", "letter", "opening", "closing", "options"] ["self", "letter", "opening", "closing", "options"] (defScope (inClass (topS 22) 0)) := ⟨rfl, rfl, rfl, by decide +kernel, rfl, by decide +kernel, by decide +kernel⟩
theorem ok_Rule___init__ (T : Tx P w K mg) : ∃ fd, Binds K fd ["self", "letter", "opening", "closing", "options"] [] ∧ PySem.W.keepIn K (.ref (He.ma K (He.ga K "Rule") "__init__")) = true ∧ FnOk P w K mg base (L2.CX P w) 1 (He.ma K (He.ga K "Rule") "__init__") fd ["self", "letter", "opening", "closing", "options"] (spI K (He.ga K "Rule") 5 (F_Rule___init__ (He.ga K))) := by
  obtain ⟨fd, F⟩ := T.fn 2 (at_ := ("Rule", some "__init__")) (n := "__init__") (q := "Rule.__init__") (st := (inClass (topS 22) 0)) rfl
  have b := F.binds (ps := ["self", "letter", "opening", "closing", "options"]) fun _ _ _ _ _ _ us hl => match us, hl with | [_, _, _, _, _], _ => rfl
  exact ⟨fd, b, F.kp, initD F sc_Rule___init__ rfl (by decide) fun cdv A outer s H E Z o => (show _ from
   (s_cons (s_fld (dv 0) (dv 1) (T.cls 25 rfl) (T.noat 27 rfl))
 (s_cons (s_fld (dv 0) (dv 2) (T.cls 25 rfl) (T.noat 28 rfl))
 (s_cons (s_fld (dv 0) (dv 3) (T.cls 25 rfl) (T.noat 29 rfl))
 (s_cons (s_fld (dv 0) (d_dget o.hu (dv 4) d_str) (T.cls 25 rfl) (T.noat 30 rfl))
 (s_cons (s_fld (dv 0) (d_dget o.hu (dv 4) d_str) (T.cls 25 rfl) (T.noat 31 rfl))
 (s_cons (s_fld (dv 0) (d_dget o.hu (dv 4) d_str) (T.cls 25 rfl) (T.noat 32 rfl))
 (s_one (s_fld (dv 0) (d_or (d_dget o.hu (dv 4) d_str) (d_one (d_cmp (op_eqS o.hu) od_eq (dv 3) d_str (by rfl)))) (T.cls 25 rfl) (T.noat 33 rfl))))))))))⟩
def m_options_of (ga : Str → Addr) : M Fl := (sq (setO 1 (dispM [((Sum.inr "nested"), (mret (D.int 0))), ((Sum.inr "escape"), (mret (D.str (cs "")))), ((Sum.inr "doubled"), (mret (D.bl false))), ((Sum.inr "line"), (mret (D.bl false)))]))
 (sq (asgM (mret (D.int 0)) (gN 2))
 (sq (ifM (tstB (binD eqD (slM slcD (vr 0) noP (someP (mret (D.int 1)))) (frz (lstM (aCons (mret (D.str (cs "nested"))) aNil)))))
 (sq (ifM (tstB (binD (inA true) (slM slcD (vr 0) (someP (mret (D.int 1))) (someP (mret (D.int 2)))) (tupM (aCons (frz (lstM (aCons (mret (D.str (cs "2"))) aNil))) (aCons (frz (lstM (aCons (mret (D.str (cs "3"))) aNil))) (aCons (frz (lstM (aCons (mret (D.str (cs "4"))) aNil))) aNil))))))
 (retM (mret D.non))
 (mret Fl.nx))
 (sq (ixS (vr 1) (mret (D.str (cs "nested"))) (calM intS (aCons (binD ixD (vr 0) (mret (D.int 1))) aNil)))
 (asgM (mret (D.int 2)) (gN 2))))
 (mret Fl.nx))
 (sq (ifM (tstB (binD eqD (slM slcD (vr 0) (someP (vr 2)) (someP (binD addA (vr 2) (mret (D.int 1))))) (frz (lstM (aCons (mret (D.str (cs "escape"))) aNil)))))
 (sq (ifM (orT (tstB (binD eqD (calM lenD (aCons (vr 0) aNil)) (binD addA (vr 2) (mret (D.int 1))))) (orT (tstB (binD neD (calM lenD (aCons (binD ixD (vr 0) (binD addA (vr 2) (mret (D.int 1)))) aNil)) (mret (D.int 1)))) (notT (tstD (callN 1 (F_is_mark ga) [] (aCons (binD ixD (vr 0) (binD addA (vr 2) (mret (D.int 1)))) aNil))))))
 (retM (mret D.non))
 (mret Fl.nx))
 (sq (ixS (vr 1) (mret (D.str (cs "escape"))) (binD ixD (vr 0) (binD addA (vr 2) (mret (D.int 1)))))
 (augI 2 (mret (D.int 2)) (fun i j => i + j))))
 (mret Fl.nx))
 (sq (forM' (anyI (tupM (aCons (mret (D.str (cs "doubled"))) (aCons (mret (D.str (cs "line"))) aNil)))) (gN 3)
 (ifM (tstB (binD eqD (slM slcD (vr 0) (someP (vr 2)) (someP (binD addA (vr 2) (mret (D.int 1))))) (frz (lstM (aCons (vr 3) aNil)))))
 (sq (ixS (vr 1) (vr 3) (mret (D.bl true)))
 (augI 2 (mret (D.int 1)) (fun i j => i + j)))
 (mret Fl.nx)))
 (retM (ifD (tstB (binD eqD (vr 2) (calM lenD (aCons (vr 0) aNil)))) (vr 1) (mret D.non))))))))
def F_options_of (ga : Str → Addr) : FD := runB 4 (m_options_of ga)
theorem sc_options_of : FnScope ["words", "found", "at", "option"] ["words"] (defScope (topS 23)) := ⟨rfl, rfl, rfl, by decide +kernel, rfl, by decide +kernel, by decide +kernel⟩
theorem ok_options_of (T : Tx P w K mg) : ∃ fd, Binds K fd ["words"] [] ∧ PySem.W.keepIn K (.ref (He.ga K "options_of")) = true ∧ FnOk P w K mg base (L2.CX P w) 2 (He.ga K "options_of") fd ["words"] (spF K 1 (F_options_of (He.ga K))) := by
  obtain ⟨fd_is_mark, b_is_mark, k_is_mark, G_is_mark⟩ := ok_is_mark (P := P) (base := base) T
  obtain ⟨fd, F⟩ := T.fn 3 (at_ := ("options_of", none)) (n := "options_of") (q := "options_of") (st := (topS 23)) rfl
  have b := F.binds (ps := ["words"]) fun _ _ _ _ _ _ us hl => match us, hl with | [_], _ => rfl
  exact ⟨fd, b, F.kp, fnD F sc_options_of rfl (by decide) (fun cdv A outer s H E Z o => (show _ from
   (s_cons (s_setO (i := 1) (by exact o.nd) rfl (by first | exact .inl rfl | exact .inr rfl) (f_disp (ps := [((Sum.inr "nested"), (mret (D.int 0))), ((Sum.inr "escape"), (mret (D.str (cs "")))), ((Sum.inr "doubled"), (mret (D.bl false))), ((Sum.inr "line"), (mret (D.bl false)))]) (pps_cons pe_str (PE.ex fun Z => d_int) (pps_cons pe_str (PE.ex fun Z => d_str) (pps_cons pe_str (PE.ex fun Z => d_bl) (pps_cons pe_str (PE.ex fun Z => d_bl) pps_nil)))) (.cons (fun _ _ _ h => h) (fun Z _ _ _ h => ⟨Z, h⟩) (.cons (fun _ _ _ h => h) (fun Z _ _ _ h => ⟨Z, h⟩) (.cons (fun _ _ _ h => h) (fun Z _ _ _ h => ⟨Z, h⟩) (.cons (fun _ _ _ h => h) (fun Z _ _ _ h => ⟨Z, h⟩) .nil)))) (by rfl) (by rfl) (fun z => by cases z) (by decide) (by decide)))
 (s_cons (s_set (i := 2) (by exact o.nd) rfl (by first | exact .inl rfl | exact .inr rfl) d_int)
 (s_cons (s_if (t_cmp (op_eqS o.hu) od_eq (d_slice sl_any sd_any (dv 0) o_none (o_some d_int)) (d_frz (f_lst (da_cons d_str da_nil))) (by rfl))
 (s_cons (s_if (t_cmp (op_ninA o.hu) od_ninA (d_slice sl_any sd_any (dv 0) (o_some d_int) (o_some d_int)) (d_tup (da_cons (d_frz (f_lst (da_cons d_str da_nil))) (da_cons (d_frz (f_lst (da_cons d_str da_nil))) (da_cons (d_frz (f_lst (da_cons d_str da_nil))) da_nil)))) (by rfl))
 (s_one (s_ret d_non))
 s_nil)
 (s_cons (s_dput o.hu (dv 1) d_str (d_callTy call_intA cd_intS (by rfl) (T.free 53 rfl) (by decide +kernel) (da_cons (d_ix (dv 0) d_int) da_nil)))
 (s_one (s_set (i := 2) (by exact o.nd) rfl (by first | exact .inl rfl | exact .inr rfl) d_int))))
 s_nil)
 (s_cons (s_if (t_cmp (op_eqS o.hu) od_eq (d_slice sl_any sd_any (dv 0) (o_some (dv 2)) (o_some (d_op op_addA od_addA (dv 2) d_int))) (d_frz (f_lst (da_cons d_str da_nil))) (by rfl))
 (s_cons (s_if ((w_or (t_cmp (op_eqS o.hu) od_eq (d_callB call_len cd_len (by rfl) (T.free 55 rfl) (by decide +kernel) (da_cons (dv 0) da_nil)) (d_op op_addA od_addA (dv 2) d_int) (by rfl)) (w_or (t_cmp (op_neS o.hu) od_ne (d_callB call_len cd_len (by rfl) (T.free 55 rfl) (by decide +kernel) (da_cons (d_ix (dv 0) (d_op op_addA od_addA (dv 2) d_int)) da_nil)) d_int (by rfl)) (w_or1 (t_not (t_val (d_call (dds := []) (o.low (by decide)) G_is_mark (by rfl) (T.glo 7 rfl) k_is_mark b_is_mark .nil (fun _ => rfl) (da_cons (d_ix (dv 0) (d_op op_addA od_addA (dv 2) d_int)) da_nil)))))))).pt
 (s_one (s_ret d_non))
 s_nil)
 (s_cons (s_dput o.hu (dv 1) d_str (d_ix (dv 0) (d_op op_addA od_addA (dv 2) d_int)))
 (s_one (s_aug (i := 2) (by exact o.nd) rfl (by first | exact .inl rfl | exact .inr rfl) d_int ip_add))))
 s_nil)
 (s_cons (s_for o.po (by exact o.calm) (i_any (d_tup (da_cons d_str (da_cons d_str da_nil)))) (g_name (i := 3) (by exact o.nd) rfl (by first | exact .inl rfl | exact .inr rfl))
 (s_one (s_if (t_cmp (op_eqS o.hu) od_eq (d_slice sl_any sd_any (dv 0) (o_some (dv 2)) (o_some (d_op op_addA od_addA (dv 2) d_int))) (d_frz (f_lst (da_cons (dv 3) da_nil))) (by rfl))
 (s_cons (s_dput o.hu (dv 1) (dv 3) d_bl)
 (s_one (s_aug (i := 2) (by exact o.nd) rfl (by first | exact .inl rfl | exact .inr rfl) d_int ip_add)))
 s_nil)))
 (s_one (s_ret (d_if (t_cmp (op_eqS o.hu) od_eq (dv 2) (d_callB call_len cd_len (by rfl) (T.free 55 rfl) (by decide +kernel) (da_cons (dv 0) da_nil)) (by rfl)) (dv 1) d_non)))))))))) fun _ _ _ => .inr rfl⟩
def m_rule_of (ga : Str → Addr) : M Fl := (sq (asgM (sm1 splitD (vr 0) (mret (D.str (cs " ")))) (gN 1))
 (sq (ifM (orT (tstB (binD fLt (calM lenD (aCons (vr 1) aNil)) (mret (D.int 4)))) (orT (tstB (kdIn true has_LETTERS (binD ixD (vr 1) (mret (D.int 0))))) (orT (notT (tstD (callN 1 (F_is_mark ga) [] (aCons (binD ixD (vr 1) (mret (D.int 1))) aNil)))) (tstB (binD neD (binD ixD (vr 1) (mret (D.int 2))) (mret (D.str (cs "to"))))))))
 (retM (mret D.non))
 (mret Fl.nx))
 (sq (asgM (ifD (tstB (binD eqD (binD ixD (vr 1) (mret (D.int 3))) (mret (D.str (cs "line"))))) (mret (D.str (cs ""))) (binD ixD (vr 1) (mret (D.int 3)))) (gN 2))
 (sq (asgM (callN 1 (F_options_of ga) [] (aCons (slM slcD (vr 1) (someP (mret (D.int 4))) noP) aNil)) (gN 3))
 (sq (ifM (orT (tstB (binD (isND false) (vr 3) (mret D.non))) (andT (tstB (binD neD (vr 2) (mret (D.str (cs ""))))) (notT (tstD (callN 1 (F_is_mark ga) [] (aCons (vr 2) aNil))))))
 (retM (mret D.non))
 (mret Fl.nx))
 (sq (ifM (andT (tstB (binD eqD (vr 2) (mret (D.str (cs ""))))) (orT (tstB (binD fGt (binD dgetD (vr 3) (mret (D.str (cs "nested")))) (mret (D.int 0)))) (orT (tstD (binD dgetD (vr 3) (mret (D.str (cs "doubled"))))) (tstD (binD dgetD (vr 3) (mret (D.str (cs "line"))))))))
 (retM (mret D.non))
 (mret Fl.nx))
 (sq (ifM (andT (tstB (binD fGt (binD dgetD (vr 3) (mret (D.str (cs "nested")))) (mret (D.int 0)))) (orT (tstB (binD neD (binD ixD (vr 1) (mret (D.int 0))) (mret (D.str (cs "remark"))))) (orT (tstB (binD eqD (vr 2) (binD ixD (vr 1) (mret (D.int 1))))) (tstD (binD dgetD (vr 3) (mret (D.str (cs "doubled"))))))))
 (retM (mret D.non))
 (mret Fl.nx))
 (retM (makeM (ga "Rule") 4 (F_Rule___init__ ga) [] (aCons (kdM get_LETTERS (binD ixD (vr 1) (mret (D.int 0)))) (aCons (binD ixD (vr 1) (mret (D.int 1))) (aCons (vr 2) (aCons (vr 3) aNil)))))))))))))
def F_rule_of (ga : Str → Addr) : FD := runB 4 (m_rule_of ga)
theorem sc_rule_of : FnScope ["line", "words", "closing", "options"] ["line"] (defScope (topS 24)) := ⟨rfl, rfl, rfl, by decide +kernel, rfl, by decide +kernel, by decide +kernel⟩
theorem ok_rule_of (T : Tx P w K mg) : ∃ fd, Binds K fd ["line"] [] ∧ PySem.W.keepIn K (.ref (He.ga K "rule_of")) = true ∧ FnOk P w K mg base (L2.CX P w) 3 (He.ga K "rule_of") fd ["line"] (spF K 1 (F_rule_of (He.ga K))) := by
  obtain ⟨fd_options_of, b_options_of, k_options_of, G_options_of⟩ := ok_options_of (P := P) (base := base) T
  obtain ⟨fd_Rule___init__, b_Rule___init__, k_Rule___init__, G_Rule___init__⟩ := ok_Rule___init__ (P := P) (base := base) T
  obtain ⟨fd_is_mark, b_is_mark, k_is_mark, G_is_mark⟩ := ok_is_mark (P := P) (base := base) T
  obtain ⟨fd, F⟩ := T.fn 4 (at_ := ("rule_of", none)) (n := "rule_of") (q := "rule_of") (st := (topS 24)) rfl
  have b := F.binds (ps := ["line"]) fun _ _ _ _ _ _ us hl => match us, hl with | [_], _ => rfl
  exact ⟨fd, b, F.kp, fnD F sc_rule_of rfl (by decide) (fun cdv A outer s H E Z o => (show _ from
   (s_cons (s_set (i := 1) (by exact o.nd) rfl (by first | exact .inl rfl | exact .inr rfl) (d_m1 PySem.F.slot_str_split PySem.F.type_str_split mt_split md_split (dv 0) d_str))
 (s_cons (s_if ((w_or (t_cmp op_lt od_lt (d_callB call_len cd_len (by rfl) (T.free 55 rfl) (by decide +kernel) (da_cons (dv 1) da_nil)) d_int (by rfl)) (w_or (t_kdNin (kd_LETTERS T).choose_spec.choose_spec (by rfl) (T.glo 48 rfl) (d_ix (dv 1) d_int) (thas_LETTERS T)) (w_or (t_not (t_val (d_call (dds := []) (o.low (by decide)) G_is_mark (by rfl) (T.glo 7 rfl) k_is_mark b_is_mark .nil (fun _ => rfl) (da_cons (d_ix (dv 1) d_int) da_nil)))) (w_or1 (t_cmp (op_neS o.hu) od_ne (d_ix (dv 1) d_int) d_str (by rfl))))))).pt
 (s_one (s_ret d_non))
 s_nil)
 (s_cons (s_set (i := 2) (by exact o.nd) rfl (by first | exact .inl rfl | exact .inr rfl) (d_if (t_cmp (op_eqS o.hu) od_eq (d_ix (dv 1) d_int) (d_gstr (by rfl) (T.str 46 rfl)) (by rfl)) d_str (d_ix (dv 1) d_int)))
 (s_cons (s_set (i := 3) (by exact o.nd) rfl (by first | exact .inl rfl | exact .inr rfl) (d_call (dds := []) (o.low (by decide)) G_options_of (by rfl) (T.glo 9 rfl) k_options_of b_options_of .nil (fun _ => rfl) (da_cons (d_slice sl_any sd_any (dv 1) (o_some d_int) o_none) da_nil)))
 (s_cons (s_if ((w_or (t_cmp op_isN (od_isN (neg := false)) (dv 3) d_non (by rfl)) (w_or1 ((w_and (t_cmp (op_neS o.hu) od_ne (dv 2) d_str (by rfl)) (w_and1 (t_not (t_val (d_call (dds := []) (o.low (by decide)) G_is_mark (by rfl) (T.glo 7 rfl) k_is_mark b_is_mark .nil (fun _ => rfl) (da_cons (dv 2) da_nil))))))).pt))).pt
 (s_one (s_ret d_non))
 s_nil)
 (s_cons (s_if ((w_and (t_cmp (op_eqS o.hu) od_eq (dv 2) d_str (by rfl)) (w_and1 ((w_or (t_cmp op_gt od_gt (d_dget o.hu (dv 3) d_str) d_int (by rfl)) (w_or (t_val (d_dget o.hu (dv 3) d_str)) (w_or1 (t_val (d_dget o.hu (dv 3) d_str)))))).pt))).pt
 (s_one (s_ret d_non))
 s_nil)
 (s_cons (s_if ((w_and (t_cmp op_gt od_gt (d_dget o.hu (dv 3) d_str) d_int (by rfl)) (w_and1 ((w_or (t_cmp (op_neS o.hu) od_ne (d_ix (dv 1) d_int) d_str (by rfl)) (w_or (t_cmp (op_eqS o.hu) od_eq (dv 2) (d_ix (dv 1) d_int) (by rfl)) (w_or1 (t_val (d_dget o.hu (dv 3) d_str)))))).pt))).pt
 (s_one (s_ret d_non))
 s_nil)
 (s_one (s_ret (d_make (dds := []) (o.low (by decide)) (T.mkr 26 rfl) G_Rule___init__ (by rfl) (T.glo 24 rfl) b_Rule___init__ .nil (fun _ => rfl) (da_cons (d_kdGet (by rfl) (T.glo 48 rfl) (d_ix (dv 1) d_int) (tget_LETTERS T)) (da_cons (d_ix (dv 1) d_int) (da_cons (dv 2) (da_cons (dv 3) da_nil)))))))))))))))) fun _ _ _ => .inr rfl⟩
def m_read_rules (ga : Str → Addr) : M Fl := (sq (setO 1 (lstM aNil))
 (sq (forM' (enumA (aCons (vr 0) aNil)) (gT 2 (gCons' (gN 2) (gCons' (gN 3) gNil')))
 (sq (asgM (callN 1 (F_rule_of ga) [] (aCons (vr 3) aNil)) (gN 4))
 (sq (ifM (orT (tstB (binD eqD (vr 2) (mret (D.int (6))))) (orT (tstB (binD (isND false) (vr 4) (mret D.non))) (tstB (binD (inA false) (fldD (ga "Rule") "opening" (vr 4)) (frz (lcM (ownI 1) [5] (gN 5) yesM (fldD (ga "Rule") "opening" (vr 5))))))))
 (raiM (ga "BadTongue") "line" okI (aCons (binD addA (vr 2) (mret (D.int 1))) aNil))
 (mret Fl.nx))
 (dropM (apM (vr 1) (aCons (vr 4) aNil))))))
 (retM (vr 1))))
def F_read_rules (ga : Str → Addr) : FD := runB 6 (m_read_rules ga)
theorem sc_read_rules : FnScope ["lines", "found", "at", "line", "rule", "known"] ["lines"] (defScope (topS 27)) := ⟨rfl, rfl, rfl, by decide +kernel, rfl, by decide +kernel, by decide +kernel⟩
theorem ok_read_rules (T : Tx P w K mg) : ∃ fd, Binds K fd ["lines"] [] ∧ PySem.W.keepIn K (.ref (He.ga K "read_rules")) = true ∧ FnOk P w K mg base (L2.CX P w) 4 (He.ga K "read_rules") fd ["lines"] (spF K 1 (F_read_rules (He.ga K))) := by
  obtain ⟨fd_rule_of, b_rule_of, k_rule_of, G_rule_of⟩ := ok_rule_of (P := P) (base := base) T
  obtain ⟨fd, F⟩ := T.fn 5 (at_ := ("read_rules", none)) (n := "read_rules") (q := "read_rules") (st := (topS 27)) rfl
  have b := F.binds (ps := ["lines"]) fun _ _ _ _ _ _ us hl => match us, hl with | [_], _ => rfl
  exact ⟨fd, b, F.kp, fnD F sc_read_rules rfl (by decide) (fun cdv A outer s H E Z o => (show _ from
   (s_cons (s_setO (i := 1) (by exact o.nd) rfl (by first | exact .inl rfl | exact .inr rfl) (f_lst da_nil))
 (s_cons (s_for o.po (by exact o.calm) (i_enumA (by rfl) (T.free 52 rfl) (da_cons (dv 0) da_nil)) (g_tup (by exact o.calm) (gs_cons (g_name (i := 2) (by exact o.nd) rfl (by first | exact .inl rfl | exact .inr rfl)) (gs_cons (g_name (i := 3) (by exact o.nd) rfl (by first | exact .inl rfl | exact .inr rfl)) gs_nil)))
 (s_cons (s_set (i := 4) (by exact o.nd) rfl (by first | exact .inl rfl | exact .inr rfl) (d_call (dds := []) (o.low (by decide)) G_rule_of (by rfl) (T.glo 10 rfl) k_rule_of b_rule_of .nil (fun _ => rfl) (da_cons (dv 3) da_nil)))
 (s_cons (s_if ((w_or (t_cmp (op_eqS o.hu) od_eq (dv 2) (d_gint (by rfl) (T.int 47 rfl)) (by rfl)) (w_or (t_cmp op_isN (od_isN (neg := false)) (dv 4) d_non (by rfl)) (w_or1 (t_cmp (op_inA o.hu) od_inA (d_fld (dv 4) (T.cls 25 rfl) (T.noat 28 rfl)) (d_frz (f_lcC [("known", 5)] (by exact o.calm) (by exact o.nd) i_own (show BlkOk ["lines", "found", "at", "line", "rule", "known"] (defScope (topS 27)) _ [("known", 5)] from ⟨rfl, by decide +kernel, by decide +kernel, by decide +kernel, by decide +kernel⟩) (by decide) (fun s1 H1 C1 cl1 fp1 Z => (g_name (i := 5) (by exact o.nd) rfl (by first | exact .inl rfl | exact .inr rfl))) (fun s1 H1 C1 cl1 fp1 Z => (d_fld (dv 5) (T.cls 25 rfl) (T.noat 28 rfl))))) (by rfl)))))).pt
 (s_one (s_rai1 (C := He.ga K "BadTongue") (f := "line") o (da_cons (d_op op_addA od_addA (dv 2) d_int) da_nil) okI_ok (fun ta h => rm_BadTongue T (o.low (j := 1) (by decide)).room h (by rfl))))
 s_nil)
 (s_one (s_expr (d_append (dv 1) (da_cons (dv 4) da_nil)))))))
 (s_one (s_ret (dv 1))))))) fun _ _ _ => .inr rfl⟩
def m_Tongue___init__ (ga : Str → Addr) : M Fl := (sq (fldS (ga "Tongue") "text" (vr 0) (vr 1))
 (sq (fldS (ga "Tongue") "rules" (vr 0) (calM tupleD (aCons (callN 1 (F_lines_of ga) [] (aCons (vr 1) aNil)) aNil)))
 (fldS (ga "Tongue") "forms" (vr 0) (callN 1 (F_read_rules ga) [] (aCons (fldD (ga "Tongue") "rules" (vr 0)) aNil)))))
def F_Tongue___init__ (ga : Str → Addr) : FI := runI 2 (ga "Tongue") (m_Tongue___init__ ga)
theorem sc_Tongue___init__ : FnScope ["self", "text"] ["self", "text"] (defScope (inClass (topS 28) 0)) := ⟨rfl, rfl, rfl, by decide +kernel, rfl, by decide +kernel, by decide +kernel⟩
theorem ok_Tongue___init__ (T : Tx P w K mg) : ∃ fd, Binds K fd ["self", "text"] [] ∧ PySem.W.keepIn K (.ref (He.ma K (He.ga K "Tongue") "__init__")) = true ∧ FnOk P w K mg base (L2.CX P w) 5 (He.ma K (He.ga K "Tongue") "__init__") fd ["self", "text"] (spI K (He.ga K "Tongue") 2 (F_Tongue___init__ (He.ga K))) := by
  obtain ⟨fd_read_rules, b_read_rules, k_read_rules, G_read_rules⟩ := ok_read_rules (P := P) (base := base) T
  obtain ⟨fd_lines_of, b_lines_of, k_lines_of, G_lines_of⟩ := ok_lines_of (P := P) (base := base) T
  obtain ⟨fd, F⟩ := T.fn 6 (at_ := ("Tongue", some "__init__")) (n := "__init__") (q := "Tongue.__init__") (st := (inClass (topS 28) 0)) rfl
  have b := F.binds (ps := ["self", "text"]) fun _ _ _ _ _ _ us hl => match us, hl with | [_, _], _ => rfl
  exact ⟨fd, b, F.kp, initD F sc_Tongue___init__ rfl (by decide) fun cdv A outer s H E Z o => (show _ from
   (s_cons (s_fld (dv 0) (dv 1) (T.cls 35 rfl) (T.noat 37 rfl))
 (s_cons (s_fld (dv 0) (d_callTy call_tuple_of cd_tuple (by rfl) (T.free 61 rfl) (by decide +kernel) (da_cons (d_call (dds := []) (o.low (by decide)) G_lines_of (by rfl) (T.glo 8 rfl) k_lines_of b_lines_of .nil (fun _ => rfl) (da_cons (dv 1) da_nil)) da_nil)) (T.cls 35 rfl) (T.noat 38 rfl))
 (s_one (s_fld (dv 0) (d_call (dds := []) (o.low (by decide)) G_read_rules (by rfl) (T.glo 11 rfl) k_read_rules b_read_rules .nil (fun _ => rfl) (da_cons (d_fld (dv 0) (T.cls 35 rfl) (T.noat 38 rfl)) da_nil)) (T.cls 35 rfl) (T.noat 39 rfl))))))⟩
def m__law_begun_pen (ga : Str → Addr) : M Own := (dispM [((Sum.inr "cells"), (frz (calF listA (aCons (slM slcD (vr 0) noP (someP (mret (D.int 63)))) aNil)))), ((Sum.inr "turn"), (mret (D.int 0))), ((Sum.inr "left"), (mret (D.int 0)))])
def F__law_begun_pen (ga : Str → Addr) : FG := runO 1 (m__law_begun_pen ga)
theorem sc__law_begun_pen : FnScope ["_law_script"] ["_law_script"] (defScope (topS 30)) := ⟨rfl, rfl, rfl, by decide +kernel, rfl, by decide +kernel, by decide +kernel⟩
theorem ok__law_begun_pen (T : Tx P w K mg) : ∃ fd, Binds K fd ["_law_script"] [] ∧ PySem.W.keepIn K (.ref (He.ga K "_law_begun_pen")) = true ∧ FnOk P w K mg base (L2.CX P w) 1 (He.ga K "_law_begun_pen") fd ["_law_script"] (spO K 1 (F__law_begun_pen (He.ga K))) := by
  obtain ⟨fd, F⟩ := T.fn 7 (at_ := ("_law_begun_pen", none)) (n := "_law_begun_pen") (q := "_law_begun_pen") (st := (topS 30)) rfl
  have b := F.binds (ps := ["_law_script"]) fun _ _ _ _ _ _ us hl => match us, hl with | [_], _ => rfl
  exact ⟨fd, b, F.kp, fnO F sc__law_begun_pen rfl (by decide) rfl fun cdv A outer s H E Z o => (show _ from
   (f_disp (ps := [((Sum.inr "cells"), (frz (calF listA (aCons (slM slcD (vr 0) noP (someP (mret (D.int 63)))) aNil)))), ((Sum.inr "turn"), (mret (D.int 0))), ((Sum.inr "left"), (mret (D.int 0)))]) (pps_cons pe_str (PE.ex fun Z => (d_frz (f_callTy (call_listA (by exact o.calm)) cf_listA (by rfl) (T.free 56 rfl) (by decide +kernel) (da_cons (d_slice sl_any sd_any (dv 0) o_none (o_some d_int)) da_nil)))) (pps_cons pe_str (PE.ex fun Z => d_int) (pps_cons pe_str (PE.ex fun Z => d_int) pps_nil))) (.cons (fun _ _ _ h => h) (fun Z _ _ _ h => ⟨Z, h⟩) (.cons (fun _ _ _ h => h) (fun Z _ _ _ h => ⟨Z, h⟩) (.cons (fun _ _ _ h => h) (fun Z _ _ _ h => ⟨Z, h⟩) .nil))) (by rfl) (by rfl) (fun z => by cases z) (by decide) (by decide)))⟩
def m__law_draw (ga : Str → Addr) : M Fl := (sq (ifM (tstB (binD fGt (binD dgetD (vr 0) (mret (D.str (cs "left")))) (mret (D.int 0))))
 (sq (asgM (binD fModI (calM intS (aCons (binD dgetD (vr 0) (mret (D.str (cs "left")))) aNil)) (vr 1)) (gN 2))
 (sq (ixS (vr 0) (mret (D.str (cs "left"))) (binD fDivI (binD dgetD (vr 0) (mret (D.str (cs "left")))) (vr 1)))
 (retM (vr 2))))
 (mret Fl.nx))
 (sq (asgM (binD dgetD (vr 0) (mret (D.str (cs "turn")))) (gN 3))
 (sq (ixS (vr 0) (mret (D.str (cs "turn"))) (binD addA (vr 3) (mret (D.int 1))))
 (sq (asgM (binD addA (binD mulA (mret (D.int 53)) (vr 3)) (mret (D.int 17))) (gN 4))
 (sq (ifM (tstB (binD neD (binD dgetD (vr 0) (mret (D.str (cs "cells")))) (frz (lstM aNil))))
 (asgM (binD ixD (binD dgetD (vr 0) (mret (D.str (cs "cells")))) (binD fModI (calM intS (aCons (vr 3) aNil)) (calM lenD (aCons (binD dgetD (vr 0) (mret (D.str (cs "cells")))) aNil)))) (gN 4))
 (mret Fl.nx))
 (sq (ifM (andT (tstB (binD fLt (vr 3) (calM lenD (aCons (binD dgetD (vr 0) (mret (D.str (cs "cells")))) aNil)))) (tstB (binD fGe (calM absD (aCons (vr 4) aNil)) (binD fPowI (mret (D.int 10)) (mret (D.int 18))))))
 (sq (ixS (vr 0) (mret (D.str (cs "left"))) (binD fDivI (binD fSubI (calM absD (aCons (vr 4) aNil)) (binD fPowI (mret (D.int 10)) (mret (D.int 18)))) (vr 1)))
 (retM (binD fModI (calM intS (aCons (binD fSubI (calM absD (aCons (vr 4) aNil)) (binD fPowI (mret (D.int 10)) (mret (D.int 18)))) aNil)) (vr 1))))
 (mret Fl.nx))
 (sq (asgM (binD mulA (binD fModI (calM intS (aCons (vr 4) aNil)) (mret (D.int 4294967087))) (mret (D.int 50021))) (gN 5))
 (sq (asgM (binD fModI (calM intS (aCons (binD addA (binD addA (vr 5) (binD mulA (vr 3) (binD addA (binD mulA (vr 3) (mret (D.int 28723))) (mret (D.int 10427))))) (mret (D.int 37))) aNil)) (mret (D.int 4294967029))) (gN 5))
 (sq (asgM (binD fModI (calM intS (aCons (binD mulA (vr 5) (binD addA (vr 5) (mret (D.int 74597)))) aNil)) (mret (D.int 4294966997))) (gN 5))
 (sq (asgM (binD fModI (calM intS (aCons (binD addA (binD addA (binD mulA (vr 5) (vr 5)) (binD mulA (mret (D.int 31259)) (vr 5))) (binD mulA (mret (D.int 23)) (vr 3))) aNil)) (mret (D.int 4294966981))) (gN 5))
 (retM (binD fModI (calM intS (aCons (binD fDivI (binD fModI (calM intS (aCons (binD mulA (vr 5) (binD addA (vr 5) (mret (D.int 57241)))) aNil)) (mret (D.int 4294966943))) (mret (D.int 64))) aNil)) (vr 1)))))))))))))
def F__law_draw (ga : Str → Addr) : FD := runB 6 (m__law_draw ga)
theorem sc__law_draw : FnScope ["_law_pen", "_law_span", "_law_digit", "_law_turn", "_law_cell", "_law_mixed"] ["_law_pen", "_law_span"] (defScope (topS 31)) := ⟨rfl, rfl, rfl, by decide +kernel, rfl, by decide +kernel, by decide +kernel⟩
theorem ok__law_draw (T : Tx P w K mg) : ∃ fd, Binds K fd ["_law_pen", "_law_span"] [] ∧ PySem.W.keepIn K (.ref (He.ga K "_law_draw")) = true ∧ FnOk P w K mg base (L2.CX P w) 1 (He.ga K "_law_draw") fd ["_law_pen", "_law_span"] (spF K 2 (F__law_draw (He.ga K))) := by
  obtain ⟨fd, F⟩ := T.fn 8 (at_ := ("_law_draw", none)) (n := "_law_draw") (q := "_law_draw") (st := (topS 31)) rfl
  have b := F.binds (ps := ["_law_pen", "_law_span"]) fun _ _ _ _ _ _ us hl => match us, hl with | [_, _], _ => rfl
  exact ⟨fd, b, F.kp, fnD F sc__law_draw rfl (by decide) (fun cdv A outer s H E Z o => (show _ from
   (s_cons (s_if (t_cmp op_gt od_gt (d_dget o.hu (dv 0) d_str) d_int (by rfl))
 (s_cons (s_set (i := 2) (by exact o.nd) rfl (by first | exact .inl rfl | exact .inr rfl) (d_op op_mod od_modI (d_callTy call_intA cd_intS (by rfl) (T.free 53 rfl) (by decide +kernel) (da_cons (d_dget o.hu (dv 0) d_str) da_nil)) (dv 1)))
 (s_cons (s_dput o.hu (dv 0) d_str (d_op op_fdiv od_divI (d_dget o.hu (dv 0) d_str) (dv 1)))
 (s_one (s_ret (dv 2)))))
 s_nil)
 (s_cons (s_set (i := 3) (by exact o.nd) rfl (by first | exact .inl rfl | exact .inr rfl) (d_dget o.hu (dv 0) d_str))
 (s_cons (s_dput o.hu (dv 0) d_str (d_op op_addA od_addA (dv 3) d_int))
 (s_cons (s_set (i := 4) (by exact o.nd) rfl (by first | exact .inl rfl | exact .inr rfl) (d_op op_addA od_addA (d_op op_mulA od_mulA d_int (dv 3)) d_int))
 (s_cons (s_if (t_cmp (op_neS o.hu) od_ne (d_dget o.hu (dv 0) d_str) (d_frz (f_lst da_nil)) (by rfl))
 (s_one (s_set (i := 4) (by exact o.nd) rfl (by first | exact .inl rfl | exact .inr rfl) (d_ix (d_dget o.hu (dv 0) d_str) (d_op op_mod od_modI (d_callTy call_intA cd_intS (by rfl) (T.free 53 rfl) (by decide +kernel) (da_cons (dv 3) da_nil)) (d_callB call_len cd_len (by rfl) (T.free 55 rfl) (by decide +kernel) (da_cons (d_dget o.hu (dv 0) d_str) da_nil))))))
 s_nil)
 (s_cons (s_if ((w_and (t_cmp op_lt od_lt (dv 3) (d_callB call_len cd_len (by rfl) (T.free 55 rfl) (by decide +kernel) (da_cons (d_dget o.hu (dv 0) d_str) da_nil)) (by rfl)) (w_and1 (t_cmp op_ge od_ge (d_callB call_abs cd_abs (by rfl) (T.free 49 rfl) (by decide +kernel) (da_cons (dv 4) da_nil)) (d_op op_pow od_powI d_int d_int) (by rfl))))).pt
 (s_cons (s_dput o.hu (dv 0) d_str (d_op op_fdiv od_divI (d_op op_sub od_subI (d_callB call_abs cd_abs (by rfl) (T.free 49 rfl) (by decide +kernel) (da_cons (dv 4) da_nil)) (d_op op_pow od_powI d_int d_int)) (dv 1)))
 (s_one (s_ret (d_op op_mod od_modI (d_callTy call_intA cd_intS (by rfl) (T.free 53 rfl) (by decide +kernel) (da_cons (d_op op_sub od_subI (d_callB call_abs cd_abs (by rfl) (T.free 49 rfl) (by decide +kernel) (da_cons (dv 4) da_nil)) (d_op op_pow od_powI d_int d_int)) da_nil)) (dv 1)))))
 s_nil)
 (s_cons (s_set (i := 5) (by exact o.nd) rfl (by first | exact .inl rfl | exact .inr rfl) (d_op op_mulA od_mulA (d_op op_mod od_modI (d_callTy call_intA cd_intS (by rfl) (T.free 53 rfl) (by decide +kernel) (da_cons (dv 4) da_nil)) d_int) d_int))
 (s_cons (s_set (i := 5) (by exact o.nd) rfl (by first | exact .inl rfl | exact .inr rfl) (d_op op_mod od_modI (d_callTy call_intA cd_intS (by rfl) (T.free 53 rfl) (by decide +kernel) (da_cons (d_op op_addA od_addA (d_op op_addA od_addA (dv 5) (d_op op_mulA od_mulA (dv 3) (d_op op_addA od_addA (d_op op_mulA od_mulA (dv 3) d_int) d_int))) d_int) da_nil)) d_int))
 (s_cons (s_set (i := 5) (by exact o.nd) rfl (by first | exact .inl rfl | exact .inr rfl) (d_op op_mod od_modI (d_callTy call_intA cd_intS (by rfl) (T.free 53 rfl) (by decide +kernel) (da_cons (d_op op_mulA od_mulA (dv 5) (d_op op_addA od_addA (dv 5) d_int)) da_nil)) d_int))
 (s_cons (s_set (i := 5) (by exact o.nd) rfl (by first | exact .inl rfl | exact .inr rfl) (d_op op_mod od_modI (d_callTy call_intA cd_intS (by rfl) (T.free 53 rfl) (by decide +kernel) (da_cons (d_op op_addA od_addA (d_op op_addA od_addA (d_op op_mulA od_mulA (dv 5) (dv 5)) (d_op op_mulA od_mulA d_int (dv 5))) (d_op op_mulA od_mulA d_int (dv 3))) da_nil)) d_int))
 (s_one (s_ret (d_op op_mod od_modI (d_callTy call_intA cd_intS (by rfl) (T.free 53 rfl) (by decide +kernel) (da_cons (d_op op_fdiv od_divI (d_op op_mod od_modI (d_callTy call_intA cd_intS (by rfl) (T.free 53 rfl) (by decide +kernel) (da_cons (d_op op_mulA od_mulA (dv 5) (d_op op_addA od_addA (dv 5) d_int)) da_nil)) d_int) d_int) da_nil)) (dv 1)))))))))))))))) fun _ _ _ => .inr rfl⟩
def m__law_pick (ga : Str → Addr) : M Fl := (retM (binD ixD (vr 1) (callN 2 (F__law_draw ga) [] (aCons (vr 0) (aCons (calM lenD (aCons (vr 1) aNil)) aNil)))))
def F__law_pick (ga : Str → Addr) : FD := runB 2 (m__law_pick ga)
theorem sc__law_pick : FnScope ["_law_pen", "_law_options"] ["_law_pen", "_law_options"] (defScope (topS 32)) := ⟨rfl, rfl, rfl, by decide +kernel, rfl, by decide +kernel, by decide +kernel⟩
theorem ok__law_pick (T : Tx P w K mg) : ∃ fd, Binds K fd ["_law_pen", "_law_options"] [] ∧ PySem.W.keepIn K (.ref (He.ga K "_law_pick")) = true ∧ FnOk P w K mg base (L2.CX P w) 2 (He.ga K "_law_pick") fd ["_law_pen", "_law_options"] (spF K 2 (F__law_pick (He.ga K))) := by
  obtain ⟨fd__law_draw, b__law_draw, k__law_draw, G__law_draw⟩ := ok__law_draw (P := P) (base := base) T
  obtain ⟨fd, F⟩ := T.fn 9 (at_ := ("_law_pick", none)) (n := "_law_pick") (q := "_law_pick") (st := (topS 32)) rfl
  have b := F.binds (ps := ["_law_pen", "_law_options"]) fun _ _ _ _ _ _ us hl => match us, hl with | [_, _], _ => rfl
  exact ⟨fd, b, F.kp, fnD F sc__law_pick rfl (by decide) (fun cdv A outer s H E Z o => (show _ from
   (s_one (s_ret (d_ix (dv 1) (d_call (dds := []) (o.low (by decide)) G__law_draw (by rfl) (T.glo 13 rfl) k__law_draw b__law_draw .nil (fun _ => rfl) (da_cons (dv 0) (da_cons (d_callB call_len cd_len (by rfl) (T.free 55 rfl) (by decide +kernel) (da_cons (dv 1) da_nil)) da_nil)))))))) fun _ _ _ => .inr rfl⟩
def m__law_shuffled (ga : Str → Addr) : M Fl := (sq (parFE 2 3 (calF listA (aCons (vr 1) aNil)))
 (sq (whlM (tstB (binD neD (vr 2) (frz (lstM aNil))))
 (dropM (apM (vr 3) (aCons (popAtM (vr 2) (aCons (callN 2 (F__law_draw ga) [] (aCons (vr 0) (aCons (calM lenD (aCons (vr 2) aNil)) aNil))) aNil)) aNil))) fuel)
 (retM (vr 3))))
def F__law_shuffled (ga : Str → Addr) : FD := runB 4 (m__law_shuffled ga)
theorem sc__law_shuffled : FnScope ["_law_pen", "_law_items", "_law_rest", "_law_found"] ["_law_pen", "_law_items"] (defScope (topS 33)) := ⟨rfl, rfl, rfl, by decide +kernel, rfl, by decide +kernel, by decide +kernel⟩
theorem ok__law_shuffled (T : Tx P w K mg) : ∃ fd, Binds K fd ["_law_pen", "_law_items"] [] ∧ PySem.W.keepIn K (.ref (He.ga K "_law_shuffled")) = true ∧ FnOk P w K mg base (L2.CX P w) 2 (He.ga K "_law_shuffled") fd ["_law_pen", "_law_items"] (spF K 2 (F__law_shuffled (He.ga K))) := by
  obtain ⟨fd__law_draw, b__law_draw, k__law_draw, G__law_draw⟩ := ok__law_draw (P := P) (base := base) T
  obtain ⟨fd, F⟩ := T.fn 10 (at_ := ("_law_shuffled", none)) (n := "_law_shuffled") (q := "_law_shuffled") (st := (topS 33)) rfl
  have b := F.binds (ps := ["_law_pen", "_law_items"]) fun _ _ _ _ _ _ us hl => match us, hl with | [_, _], _ => rfl
  exact ⟨fd, b, F.kp, fnD F sc__law_shuffled rfl (by decide) (fun cdv A outer s H E Z o => (show _ from
   (s_cons (s_parFE (i := 2) (j := 3) o ⟨rfl, rfl, by decide, rfl, rfl, rfl, rfl, rfl, rfl⟩ (f_callTy (call_listA (by exact o.calm)) cf_listA (by rfl) (T.free 56 rfl) (by decide +kernel) (da_cons (dv 1) da_nil)))
 (s_cons (s_while fuel o.po (t_cmp (op_neS o.hu) od_ne (dv 2) (d_frz (f_lst da_nil)) (by rfl))
 (s_one (s_expr (d_append (dv 3) (da_cons (d_popAt (dv 2) (da_cons (d_call (dds := []) (o.low (by decide)) G__law_draw (by rfl) (T.glo 13 rfl) k__law_draw b__law_draw .nil (fun _ => rfl) (da_cons (dv 0) (da_cons (d_callB call_len cd_len (by rfl) (T.free 55 rfl) (by decide +kernel) (da_cons (dv 2) da_nil)) da_nil))) da_nil)) da_nil)))))
 (s_one (s_ret (dv 3))))))) fun _ _ _ => .inr rfl⟩
def m__law_rule_text (ga : Str → Addr) : M Fl := (sq (asgM (vr 0) (gT 7 (gCons' (gN 1) (gCons' (gN 2) (gCons' (gN 3) (gCons' (gN 4) (gCons' (gN 5) (gCons' (gN 6) (gCons' (gN 7) gNil')))))))))
 (sq (asgM (binD addA (frz (lstM (aCons (vr 1) (aCons (vr 2) (aCons (mret (D.str (cs "to"))) (aCons (ifD (tstB (binD neD (vr 3) (mret (D.str (cs ""))))) (vr 3) (mret (D.str (cs "line")))) aNil)))))) (frz (ifF (tstB (binD fGt (vr 4) (mret (D.int 0)))) (lstM (aCons (mret (D.str (cs "nested"))) (aCons (calM strID (aCons (vr 4) aNil)) aNil))) (lstM aNil)))) (gN 8))
 (sq (asgM (binD addA (binD addA (vr 8) (frz (ifF (tstB (binD neD (vr 5) (mret (D.str (cs ""))))) (lstM (aCons (mret (D.str (cs "escape"))) (aCons (vr 5) aNil))) (lstM aNil)))) (frz (ifF (tstD (vr 6)) (lstM (aCons (mret (D.str (cs "doubled"))) aNil)) (lstM aNil)))) (gN 8))
 (retM (sm1 joinD (mret (D.str (cs " "))) (binD addA (vr 8) (frz (ifF (tstD (vr 7)) (lstM (aCons (mret (D.str (cs "line"))) aNil)) (lstM aNil)))))))))
def F__law_rule_text (ga : Str → Addr) : FD := runB 9 (m__law_rule_text ga)
theorem sc__law_rule_text : FnScope ["_law_rule", "_law_kind", "_law_mark", "_law_close", "_law_deep", "_law_escape", "_law_doubled", "_law_line", "_law_words"] ["_law_rule"] (defScope (topS 34)) := ⟨rfl, rfl, rfl, by decide +kernel, rfl, by decide +kernel, by decide +kernel⟩
theorem ok__law_rule_text (T : Tx P w K mg) : ∃ fd, Binds K fd ["_law_rule"] [] ∧ PySem.W.keepIn K (.ref (He.ga K "_law_rule_text")) = true ∧ FnOk P w K mg base (L2.CX P w) 1 (He.ga K "_law_rule_text") fd ["_law_rule"] (spF K 1 (F__law_rule_text (He.ga K))) := by
  obtain ⟨fd, F⟩ := T.fn 11 (at_ := ("_law_rule_text", none)) (n := "_law_rule_text") (q := "_law_rule_text") (st := (topS 34)) rfl
  have b := F.binds (ps := ["_law_rule"]) fun _ _ _ _ _ _ us hl => match us, hl with | [_], _ => rfl
  exact ⟨fd, b, F.kp, fnD F sc__law_rule_text rfl (by decide) (fun cdv A outer s H E Z o => (show _ from
   (s_cons (s_asg (dv 0) (g_tup (by exact o.calm) (gs_cons (g_name (i := 1) (by exact o.nd) rfl (by first | exact .inl rfl | exact .inr rfl)) (gs_cons (g_name (i := 2) (by exact o.nd) rfl (by first | exact .inl rfl | exact .inr rfl)) (gs_cons (g_name (i := 3) (by exact o.nd) rfl (by first | exact .inl rfl | exact .inr rfl)) (gs_cons (g_name (i := 4) (by exact o.nd) rfl (by first | exact .inl rfl | exact .inr rfl)) (gs_cons (g_name (i := 5) (by exact o.nd) rfl (by first | exact .inl rfl | exact .inr rfl)) (gs_cons (g_name (i := 6) (by exact o.nd) rfl (by first | exact .inl rfl | exact .inr rfl)) (gs_cons (g_name (i := 7) (by exact o.nd) rfl (by first | exact .inl rfl | exact .inr rfl)) gs_nil)))))))))
 (s_cons (s_set (i := 8) (by exact o.nd) rfl (by first | exact .inl rfl | exact .inr rfl) (d_op op_addA od_addA (d_frz (f_lst (da_cons (dv 1) (da_cons (dv 2) (da_cons d_str (da_cons (d_if (t_cmp (op_neS o.hu) od_ne (dv 3) d_str (by rfl)) (dv 3) d_str) da_nil)))))) (d_frz (f_if (t_cmp op_gt od_gt (dv 4) d_int (by rfl)) (f_lst (da_cons d_str (da_cons (d_callTy call_str_int cd_str (by rfl) (T.free 60 rfl) (by decide +kernel) (da_cons (dv 4) da_nil)) da_nil))) (f_lst da_nil)))))
 (s_cons (s_set (i := 8) (by exact o.nd) rfl (by first | exact .inl rfl | exact .inr rfl) (d_op op_addA od_addA (d_op op_addA od_addA (dv 8) (d_frz (f_if (t_cmp (op_neS o.hu) od_ne (dv 5) d_str (by rfl)) (f_lst (da_cons d_str (da_cons (dv 5) da_nil))) (f_lst da_nil)))) (d_frz (f_if (t_val (dv 6)) (f_lst (da_cons d_str da_nil)) (f_lst da_nil)))))
 (s_one (s_ret (d_m1 PySem.F.slot_str_join PySem.F.type_str_join mt_join md_join d_str (d_op op_addA od_addA (dv 8) (d_frz (f_if (t_val (dv 7)) (f_lst (da_cons d_str da_nil)) (f_lst da_nil)))))))))))) fun _ _ _ => .inr rfl⟩
def m__law_mark_signs (ga : Str → Addr) : M Fl := (retM (frz (calF listA (aCons (mret (D.str (cs "!\"#$&'()*+,-./:;<=>?@\x5b\\]^`{|}~"))) aNil))))
def F__law_mark_signs (ga : Str → Addr) : FD := runB 0 (m__law_mark_signs ga)
theorem sc__law_mark_signs : FnScope [] [] (defScope (topS 35)) := ⟨rfl, rfl, rfl, by decide +kernel, rfl, by decide +kernel, by decide +kernel⟩
theorem ok__law_mark_signs (T : Tx P w K mg) : ∃ fd, Binds K fd [] [] ∧ PySem.W.keepIn K (.ref (He.ga K "_law_mark_signs")) = true ∧ FnOk P w K mg base (L2.CX P w) 1 (He.ga K "_law_mark_signs") fd [] (spF K 0 (F__law_mark_signs (He.ga K))) := by
  obtain ⟨fd, F⟩ := T.fn 12 (at_ := ("_law_mark_signs", none)) (n := "_law_mark_signs") (q := "_law_mark_signs") (st := (topS 35)) rfl
  have b := F.binds (ps := []) fun _ _ _ _ _ _ us hl => match us, hl with | [], _ => rfl
  exact ⟨fd, b, F.kp, fnD F sc__law_mark_signs rfl (by decide) (fun cdv A outer s H E Z o => (show _ from
   (s_one (s_ret (d_frz (f_callTy (call_listA (by exact o.calm)) cf_listA (by rfl) (T.free 56 rfl) (by decide +kernel) (da_cons d_str da_nil))))))) fun _ _ _ => .inr rfl⟩
def m__law_new_mark (ga : Str → Addr) : M Fl := (retM (sm1 joinD (mret (D.str (cs ""))) (frz (lcM (rngM1 (aCons (binD addA (mret (D.int 1)) (callN 2 (F__law_draw ga) [] (aCons (vr 0) (aCons (vr 2) aNil)))) aNil)) [3] (gN 3) yesM (callN 2 (F__law_pick ga) [] (aCons (vr 0) (aCons (vr 1) aNil)))))))
def F__law_new_mark (ga : Str → Addr) : FD := runB 4 (m__law_new_mark ga)
theorem sc__law_new_mark : FnScope ["_law_pen", "_law_signs", "_law_most", "_law_k"] ["_law_pen", "_law_signs", "_law_most"] (defScope (topS 36)) := ⟨rfl, rfl, rfl, by decide +kernel, rfl, by decide +kernel, by decide +kernel⟩
theorem ok__law_new_mark (T : Tx P w K mg) : ∃ fd, Binds K fd ["_law_pen", "_law_signs", "_law_most"] [] ∧ PySem.W.keepIn K (.ref (He.ga K "_law_new_mark")) = true ∧ FnOk P w K mg base (L2.CX P w) 3 (He.ga K "_law_new_mark") fd ["_law_pen", "_law_signs", "_law_most"] (spF K 3 (F__law_new_mark (He.ga K))) := by
  obtain ⟨fd__law_pick, b__law_pick, k__law_pick, G__law_pick⟩ := ok__law_pick (P := P) (base := base) T
  obtain ⟨fd__law_draw, b__law_draw, k__law_draw, G__law_draw⟩ := ok__law_draw (P := P) (base := base) T
  obtain ⟨fd, F⟩ := T.fn 13 (at_ := ("_law_new_mark", none)) (n := "_law_new_mark") (q := "_law_new_mark") (st := (topS 36)) rfl
  have b := F.binds (ps := ["_law_pen", "_law_signs", "_law_most"]) fun _ _ _ _ _ _ us hl => match us, hl with | [_, _, _], _ => rfl
  exact ⟨fd, b, F.kp, fnD F sc__law_new_mark rfl (by decide) (fun cdv A outer s H E Z o => (show _ from
   (s_one (s_ret (d_m1 PySem.F.slot_str_join PySem.F.type_str_join mt_join md_join d_str (d_frz (f_lcC [("_law_k", 3)] (by exact o.calm) (by exact o.nd) (i_c (i_range1 (by rfl) (T.free 59 rfl) (da_cons (d_op op_addA od_addA d_int (d_call (dds := []) (o.low (by decide)) G__law_draw (by rfl) (T.glo 13 rfl) k__law_draw b__law_draw .nil (fun _ => rfl) (da_cons (dv 0) (da_cons (dv 2) da_nil)))) da_nil))) (show BlkOk ["_law_pen", "_law_signs", "_law_most", "_law_k"] (defScope (topS 36)) _ [("_law_k", 3)] from ⟨rfl, by decide +kernel, by decide +kernel, by decide +kernel, by decide +kernel⟩) (by decide) (fun s1 H1 C1 cl1 fp1 Z => (g_name (i := 3) (by exact o.nd) rfl (by first | exact .inl rfl | exact .inr rfl))) (fun s1 H1 C1 cl1 fp1 Z => (d_call (dds := []) ((o.blk s1 H1 _ _ fp1).low (by decide)) G__law_pick (by rfl) (T.glo 14 rfl) k__law_pick b__law_pick .nil (fun _ => rfl) (da_cons (dv 0) (da_cons (dv 1) da_nil))))))))))) fun _ _ _ => .inr rfl⟩
def m__law_new_rule (ga : Str → Addr) : M Fl := (sq (asgM (callN 2 (F__law_pick ga) [] (aCons (vr 0) (aCons (frz (lstM (aCons (mret (D.str (cs "remark"))) (aCons (mret (D.str (cs "remark"))) (aCons (mret (D.str (cs "quote"))) aNil))))) aNil))) (gN 4))
 (sq (parDD 5 6 (callN 2 (F__law_draw ga) [] (aCons (vr 0) (aCons (mret (D.int 8)) aNil))) (callN 3 (F__law_new_mark ga) [] (aCons (vr 0) (aCons (vr 2) (aCons (vr 3) aNil)))))
 (sq (asgM (ifD (tstB (binD fLt (vr 5) (mret (D.int 2)))) (mret (D.str (cs ""))) (ifD (tstB (binD eqD (vr 5) (mret (D.int 2)))) (vr 1) (vr 6))) (gN 6))
 (sq (asgM (andV (binD eqD (vr 4) (mret (D.str (cs "remark")))) (andV (binD neD (vr 6) (mret (D.str (cs "")))) (andV (binD neD (vr 6) (vr 1)) (binD (inA false) (vr 5) (tupM (aCons (mret (D.int 3)) (aCons (mret (D.int 4)) aNil))))))) (gN 7))
 (sq (asgM (ifD (tstB (binD eqD (callN 2 (F__law_draw ga) [] (aCons (vr 0) (aCons (mret (D.int 4)) aNil))) (mret (D.int 0)))) (callN 2 (F__law_pick ga) [] (aCons (vr 0) (aCons (vr 2) aNil))) (mret (D.str (cs "")))) (gN 8))
 (sq (asgM (andV (binD neD (vr 6) (mret (D.str (cs "")))) (andV (notV (vr 7)) (binD (inA false) (vr 5) (tupM (aCons (mret (D.int 2)) (aCons (mret (D.int 5)) aNil)))))) (gN 9))
 (sq (asgM (andV (binD neD (vr 6) (mret (D.str (cs "")))) (binD eqD (callN 2 (F__law_draw ga) [] (aCons (vr 0) (aCons (mret (D.int 4)) aNil))) (mret (D.int 0)))) (gN 10))
 (retM (tupM (aCons (vr 4) (aCons (vr 1) (aCons (vr 6) (aCons (ifD (tstD (vr 7)) (binD addA (mret (D.int 2)) (callN 2 (F__law_draw ga) [] (aCons (vr 0) (aCons (mret (D.int 3)) aNil)))) (mret (D.int 0))) (aCons (vr 8) (aCons (vr 9) (aCons (vr 10) aNil))))))))))))))))
def F__law_new_rule (ga : Str → Addr) : FD := runB 11 (m__law_new_rule ga)
theorem sc__law_new_rule : FnScope ["_law_pen", "_law_mark", "_law_signs", "_law_most", "_law_kind", "_law_way", "_law_close", "_law_nests", "_law_escape", "_law_doubled", "_law_line"] ["_law_pen", "_law_mark", "_law_signs", "_law_most"] (defScope (topS 37)) := ⟨rfl, rfl, rfl, by decide +kernel, rfl, by decide +kernel, by decide +kernel⟩
theorem ok__law_new_rule (T : Tx P w K mg) : ∃ fd, Binds K fd ["_law_pen", "_law_mark", "_law_signs", "_law_most"] [] ∧ PySem.W.keepIn K (.ref (He.ga K "_law_new_rule")) = true ∧ FnOk P w K mg base (L2.CX P w) 4 (He.ga K "_law_new_rule") fd ["_law_pen", "_law_mark", "_law_signs", "_law_most"] (spF K 4 (F__law_new_rule (He.ga K))) := by
  obtain ⟨fd__law_pick, b__law_pick, k__law_pick, G__law_pick⟩ := ok__law_pick (P := P) (base := base) T
  obtain ⟨fd__law_draw, b__law_draw, k__law_draw, G__law_draw⟩ := ok__law_draw (P := P) (base := base) T
  obtain ⟨fd__law_new_mark, b__law_new_mark, k__law_new_mark, G__law_new_mark⟩ := ok__law_new_mark (P := P) (base := base) T
  obtain ⟨fd, F⟩ := T.fn 14 (at_ := ("_law_new_rule", none)) (n := "_law_new_rule") (q := "_law_new_rule") (st := (topS 37)) rfl
  have b := F.binds (ps := ["_law_pen", "_law_mark", "_law_signs", "_law_most"]) fun _ _ _ _ _ _ us hl => match us, hl with | [_, _, _, _], _ => rfl
  exact ⟨fd, b, F.kp, fnD F sc__law_new_rule rfl (by decide) (fun cdv A outer s H E Z o => (show _ from
   (s_cons (s_set (i := 4) (by exact o.nd) rfl (by first | exact .inl rfl | exact .inr rfl) (d_call (dds := []) (o.low (by decide)) G__law_pick (by rfl) (T.glo 14 rfl) k__law_pick b__law_pick .nil (fun _ => rfl) (da_cons (dv 0) (da_cons (d_frz (f_lst (da_cons d_str (da_cons d_str (da_cons d_str da_nil))))) da_nil))))
 (s_cons (s_parDD (i := 5) (j := 6) o ⟨rfl, rfl, by decide, rfl, rfl, rfl, rfl, rfl, rfl⟩ (d_call (dds := []) (o.low (by decide)) G__law_draw (by rfl) (T.glo 13 rfl) k__law_draw b__law_draw .nil (fun _ => rfl) (da_cons (dv 0) (da_cons d_int da_nil))) (d_call (dds := []) (o.low (by decide)) G__law_new_mark (by rfl) (T.glo 18 rfl) k__law_new_mark b__law_new_mark .nil (fun _ => rfl) (da_cons (dv 0) (da_cons (dv 2) (da_cons (dv 3) da_nil)))))
 (s_cons (s_set (i := 6) (by exact o.nd) rfl (by first | exact .inl rfl | exact .inr rfl) (d_if (t_cmp op_lt od_lt (dv 5) d_int (by rfl)) d_str (d_if (t_cmp (op_eqS o.hu) od_eq (dv 5) d_int (by rfl)) (dv 1) (dv 6))))
 (s_cons (s_set (i := 7) (by exact o.nd) rfl (by first | exact .inl rfl | exact .inr rfl) (d_and (d_cmp (op_eqS o.hu) od_eq (dv 4) d_str (by rfl)) (d_and (d_cmp (op_neS o.hu) od_ne (dv 6) d_str (by rfl)) (d_and (d_cmp (op_neS o.hu) od_ne (dv 6) (dv 1) (by rfl)) (d_one (d_cmp (op_inA o.hu) od_inA (dv 5) (d_tup (da_cons d_int (da_cons d_int da_nil))) (by rfl)))))))
 (s_cons (s_set (i := 8) (by exact o.nd) rfl (by first | exact .inl rfl | exact .inr rfl) (d_if (t_cmp (op_eqS o.hu) od_eq (d_call (dds := []) (o.low (by decide)) G__law_draw (by rfl) (T.glo 13 rfl) k__law_draw b__law_draw .nil (fun _ => rfl) (da_cons (dv 0) (da_cons d_int da_nil))) d_int (by rfl)) (d_call (dds := []) (o.low (by decide)) G__law_pick (by rfl) (T.glo 14 rfl) k__law_pick b__law_pick .nil (fun _ => rfl) (da_cons (dv 0) (da_cons (dv 2) da_nil))) d_str))
 (s_cons (s_set (i := 9) (by exact o.nd) rfl (by first | exact .inl rfl | exact .inr rfl) (d_and (d_cmp (op_neS o.hu) od_ne (dv 6) d_str (by rfl)) (d_and (d_not (dv 7)) (d_one (d_cmp (op_inA o.hu) od_inA (dv 5) (d_tup (da_cons d_int (da_cons d_int da_nil))) (by rfl))))))
 (s_cons (s_set (i := 10) (by exact o.nd) rfl (by first | exact .inl rfl | exact .inr rfl) (d_and (d_cmp (op_neS o.hu) od_ne (dv 6) d_str (by rfl)) (d_one (d_cmp (op_eqS o.hu) od_eq (d_call (dds := []) (o.low (by decide)) G__law_draw (by rfl) (T.glo 13 rfl) k__law_draw b__law_draw .nil (fun _ => rfl) (da_cons (dv 0) (da_cons d_int da_nil))) d_int (by rfl)))))
 (s_one (s_ret (d_tup (da_cons (dv 4) (da_cons (dv 1) (da_cons (dv 6) (da_cons (d_if (t_val (dv 7)) (d_op op_addA od_addA d_int (d_call (dds := []) (o.low (by decide)) G__law_draw (by rfl) (T.glo 13 rfl) k__law_draw b__law_draw .nil (fun _ => rfl) (da_cons (dv 0) (da_cons d_int da_nil)))) d_int) (da_cons (dv 8) (da_cons (dv 9) (da_cons (dv 10) da_nil))))))))))))))))))) fun _ _ _ => .inr rfl⟩
def m__law_wrong_lines (ga : Str → Addr) : M Fl := (sq (asgM (binD addA (binD addA (binD addA (mret (D.str (cs "remark "))) (vr 0)) (mret (D.str (cs " to ")))) (vr 1)) (gN 2))
 (sq (setO 3 (lstM (aCons (mret (D.str (cs ""))) (aCons (mret (D.str (cs " "))) (aCons (mret (D.str (cs "remark"))) (aCons (binD addA (mret (D.str (cs "remark "))) (vr 0)) (aCons (binD addA (binD addA (mret (D.str (cs "remark "))) (vr 0)) (mret (D.str (cs " to")))) (aCons (binD addA (binD addA (mret (D.str (cs "remark "))) (vr 0)) (mret (D.str (cs " in line")))) aNil))))))))
 (sq (setO 3 (addF (vr 3) (frz (lstM (aCons (binD addA (binD addA (mret (D.str (cs "Remark "))) (vr 0)) (mret (D.str (cs " to line")))) (aCons (binD addA (binD addA (mret (D.str (cs "code "))) (vr 0)) (mret (D.str (cs " to line")))) (aCons (mret (D.str (cs "remark a to line"))) (aCons (mret (D.str (cs "remark to line"))) aNil))))))))
 (sq (setO 3 (addF (vr 3) (frz (lstM (aCons (binD addA (binD addA (mret (D.str (cs "remark "))) (vr 0)) (mret (D.str (cs " to a")))) (aCons (binD addA (binD addA (binD addA (mret (D.str (cs "remark "))) (vr 0)) (mret (D.str (cs " to ")))) (binD mulA (mret (D.str (cs "?"))) (mret (D.int 5)))) (aCons (binD addA (binD addA (mret (D.str (cs "quote "))) (binD mulA (mret (D.str (cs "?"))) (mret (D.int 5)))) (mret (D.str (cs " to line")))) aNil)))))))
 (sq (setO 3 (addF (vr 3) (frz (lstM (aCons (mret (D.str (cs "quote _ to line"))) (aCons (binD addA (binD addA (mret (D.str (cs "quote "))) (vr 0)) (mret (D.str (cs " to _")))) (aCons (binD addA (binD addA (mret (D.str (cs "quote "))) (vr 0)) (mret (D.str (cs " to line ")))) (aCons (binD addA (mret (D.str (cs " "))) (vr 2)) aNil))))))))
 (sq (setO 3 (addF (vr 3) (frz (lstM (aCons (mret (D.str (cs "remark 1 to line"))) (aCons (mret (D.str (cs "remark A to line"))) (aCons (binD addA (binD addA (mret (D.str (cs "remark "))) (slM slcD (vr 0) noP (someP (mret (D.int 3))))) (mret (D.str (cs "a to line")))) aNil)))))))
 (sq (setO 3 (addF (vr 3) (frz (lcM (anyI (frz (lstM (aCons (mret (D.str (cs "1"))) (aCons (mret (D.str (cs "_"))) (aCons (mret (D.str (cs "Z"))) aNil)))))) [5] (gN 5) yesM (binD addA (binD addA (binD addA (binD addA (mret (D.str (cs "quote "))) (vr 0)) (mret (D.str (cs " to ")))) (slM slcD (vr 1) noP (someP (mret (D.int 3))))) (vr 5))))))
 (sq (setO 3 (addF (vr 3) (frz (lstM (aCons (binD addA (binD addA (mret (D.str (cs "remark  "))) (vr 0)) (mret (D.str (cs " to line")))) (aCons (binD addA (binD addA (mret (D.str (cs "remark "))) (vr 0)) (mret (D.str (cs " to  line")))) (aCons (binD addA (binD addA (mret (D.str (cs "remark "))) (vr 0)) (mret (D.str (cs " to Line")))) aNil)))))))
 (sq (forM' (anyI (frz (lstM (aCons (mret (D.str (cs "line"))) (aCons (mret (D.str (cs "doubled"))) (aCons (mret (D.str (cs "nested 2"))) (aCons (mret (D.str (cs "escape"))) (aCons (mret (D.str (cs "escape ! line"))) (aCons (mret (D.str (cs "escape ! doubled"))) (aCons (mret (D.str (cs "nested 2 escape !"))) aNil)))))))))) (gN 4)
 (dropM (apM (vr 3) (aCons (binD addA (binD addA (binD addA (mret (D.str (cs "remark "))) (vr 0)) (mret (D.str (cs " to line ")))) (vr 4)) aNil))))
 (sq (setO 3 (addF (vr 3) (frz (lstM (aCons (binD addA (binD addA (binD addA (binD addA (mret (D.str (cs "remark "))) (vr 0)) (mret (D.str (cs " to ")))) (vr 0)) (mret (D.str (cs " nested 2")))) (aCons (binD addA (binD addA (binD addA (binD addA (mret (D.str (cs "quote "))) (vr 0)) (mret (D.str (cs " to ")))) (vr 1)) (mret (D.str (cs " nested 2")))) aNil))))))
 (sq (forM' (anyI (frz (lstM (aCons (mret (D.str (cs "nested"))) (aCons (mret (D.str (cs "nested 1"))) (aCons (mret (D.str (cs "nested 5"))) (aCons (mret (D.str (cs "nested 02"))) (aCons (mret (D.str (cs "nested two"))) (aCons (mret (D.str (cs "nested 2 doubled"))) (aCons (mret (D.str (cs "doubled nested 2"))) aNil)))))))))) (gN 4)
 (dropM (apM (vr 3) (aCons (binD addA (binD addA (vr 2) (mret (D.str (cs " ")))) (vr 4)) aNil))))
 (sq (forM' (anyI (frz (lstM (aCons (mret (D.str (cs "escape"))) (aCons (mret (D.str (cs "escape !!"))) (aCons (mret (D.str (cs "escape a"))) (aCons (mret (D.str (cs "escape _"))) (aCons (mret (D.str (cs "escape 1"))) (aCons (mret (D.str (cs "escape Z"))) aNil))))))))) (gN 4)
 (dropM (apM (vr 3) (aCons (binD addA (binD addA (vr 2) (mret (D.str (cs " ")))) (vr 4)) aNil))))
 (sq (setO 3 (addF (vr 3) (frz (lstM (aCons (binD addA (vr 2) (mret (D.str (cs " line escape !")))) (aCons (binD addA (vr 2) (mret (D.str (cs " doubled escape !")))) aNil))))))
 (sq (forM' (anyI (frz (lstM (aCons (mret (D.str (cs "line line"))) (aCons (mret (D.str (cs "doubled doubled"))) (aCons (mret (D.str (cs "line doubled"))) (aCons (mret (D.str (cs "escape ! escape !"))) (aCons (mret (D.str (cs "nested 2 nested 2"))) (aCons (mret (D.str (cs "open"))) aNil))))))))) (gN 4)
 (dropM (apM (vr 3) (aCons (binD addA (binD addA (vr 2) (mret (D.str (cs " ")))) (vr 4)) aNil))))
 (retM (binD addA (vr 3) (frz (lstM (aCons (binD addA (vr 2) (mret (D.str (cs " line ")))) (aCons (binD addA (vr 2) (mret (D.str (cs "  line")))) (aCons (binD addA (vr 2) (mret (D.str (cs " nested 2 escape ! doubled line")))) (aCons (binD addA (binD addA (vr 0) (mret (D.str (cs " to ")))) (vr 1)) aNil))))))))))))))))))))))
def F__law_wrong_lines (ga : Str → Addr) : FD := runB 6 (m__law_wrong_lines ga)
theorem sc__law_wrong_lines : FnScope ["_law_one", "_law_two", "_law_pair", "_law_found", "_law_option", "_law_last"] ["_law_one", "_law_two"] (defScope (topS 38)) := ⟨rfl, rfl, rfl, by decide +kernel, rfl, by decide +kernel, by decide +kernel⟩
theorem ok__law_wrong_lines (T : Tx P w K mg) : ∃ fd, Binds K fd ["_law_one", "_law_two"] [] ∧ PySem.W.keepIn K (.ref (He.ga K "_law_wrong_lines")) = true ∧ FnOk P w K mg base (L2.CX P w) 1 (He.ga K "_law_wrong_lines") fd ["_law_one", "_law_two"] (spF K 2 (F__law_wrong_lines (He.ga K))) := by
  obtain ⟨fd, F⟩ := T.fn 15 (at_ := ("_law_wrong_lines", none)) (n := "_law_wrong_lines") (q := "_law_wrong_lines") (st := (topS 38)) rfl
  have b := F.binds (ps := ["_law_one", "_law_two"]) fun _ _ _ _ _ _ us hl => match us, hl with | [_, _], _ => rfl
  exact ⟨fd, b, F.kp, fnD F sc__law_wrong_lines rfl (by decide) (fun cdv A outer s H E Z o => (show _ from
   (s_cons (s_set (i := 2) (by exact o.nd) rfl (by first | exact .inl rfl | exact .inr rfl) (d_op op_addA od_addA (d_op op_addA od_addA (d_op op_addA od_addA d_str (dv 0)) d_str) (dv 1)))
 (s_cons (s_setO (i := 3) (by exact o.nd) rfl (by first | exact .inl rfl | exact .inr rfl) (f_lst (da_cons d_str (da_cons d_str (da_cons d_str (da_cons (d_op op_addA od_addA d_str (dv 0)) (da_cons (d_op op_addA od_addA (d_op op_addA od_addA d_str (dv 0)) d_str) (da_cons (d_op op_addA od_addA (d_op op_addA od_addA d_str (dv 0)) d_str) da_nil))))))))
 (s_cons (s_setO (i := 3) (by exact o.nd) rfl (by first | exact .inl rfl | exact .inr rfl) (f_addL (dv 3) (d_frz (f_lst (da_cons (d_op op_addA od_addA (d_op op_addA od_addA d_str (dv 0)) d_str) (da_cons (d_op op_addA od_addA (d_op op_addA od_addA d_str (dv 0)) d_str) (da_cons d_str (da_cons d_str da_nil))))))))
 (s_cons (s_setO (i := 3) (by exact o.nd) rfl (by first | exact .inl rfl | exact .inr rfl) (f_addL (dv 3) (d_frz (f_lst (da_cons (d_op op_addA od_addA (d_op op_addA od_addA d_str (dv 0)) d_str) (da_cons (d_op op_addA od_addA (d_op op_addA od_addA (d_op op_addA od_addA d_str (dv 0)) d_str) (d_op op_mulA od_mulA d_str d_int)) (da_cons (d_op op_addA od_addA (d_op op_addA od_addA d_str (d_op op_mulA od_mulA d_str d_int)) d_str) da_nil)))))))
 (s_cons (s_setO (i := 3) (by exact o.nd) rfl (by first | exact .inl rfl | exact .inr rfl) (f_addL (dv 3) (d_frz (f_lst (da_cons d_str (da_cons (d_op op_addA od_addA (d_op op_addA od_addA d_str (dv 0)) d_str) (da_cons (d_op op_addA od_addA (d_op op_addA od_addA d_str (dv 0)) d_str) (da_cons (d_op op_addA od_addA d_str (dv 2)) da_nil))))))))
 (s_cons (s_setO (i := 3) (by exact o.nd) rfl (by first | exact .inl rfl | exact .inr rfl) (f_addL (dv 3) (d_frz (f_lst (da_cons d_str (da_cons d_str (da_cons (d_op op_addA od_addA (d_op op_addA od_addA d_str (d_slice sl_any sd_any (dv 0) o_none (o_some d_int))) d_str) da_nil)))))))
 (s_cons (s_setO (i := 3) (by exact o.nd) rfl (by first | exact .inl rfl | exact .inr rfl) (f_addL (dv 3) (d_frz (f_lcC [("_law_last", 5)] (by exact o.calm) (by exact o.nd) (i_c (i_any (d_frz (f_lst (da_cons d_str (da_cons d_str (da_cons d_str da_nil))))))) (show BlkOk ["_law_one", "_law_two", "_law_pair", "_law_found", "_law_option", "_law_last"] (defScope (topS 38)) _ [("_law_last", 5)] from ⟨rfl, by decide +kernel, by decide +kernel, by decide +kernel, by decide +kernel⟩) (by decide) (fun s1 H1 C1 cl1 fp1 Z => (g_name (i := 5) (by exact o.nd) rfl (by first | exact .inl rfl | exact .inr rfl))) (fun s1 H1 C1 cl1 fp1 Z => (d_op op_addA od_addA (d_op op_addA od_addA (d_op op_addA od_addA (d_op op_addA od_addA d_str (dv 0)) d_str) (d_slice sl_any sd_any (dv 1) o_none (o_some d_int))) (dv 5)))))))
 (s_cons (s_setO (i := 3) (by exact o.nd) rfl (by first | exact .inl rfl | exact .inr rfl) (f_addL (dv 3) (d_frz (f_lst (da_cons (d_op op_addA od_addA (d_op op_addA od_addA d_str (dv 0)) d_str) (da_cons (d_op op_addA od_addA (d_op op_addA od_addA d_str (dv 0)) d_str) (da_cons (d_op op_addA od_addA (d_op op_addA od_addA d_str (dv 0)) d_str) da_nil)))))))
 (s_cons (s_for o.po (by exact o.calm) (i_any (d_frz (f_lst (da_cons d_str (da_cons d_str (da_cons d_str (da_cons d_str (da_cons d_str (da_cons d_str (da_cons d_str da_nil)))))))))) (g_name (i := 4) (by exact o.nd) rfl (by first | exact .inl rfl | exact .inr rfl))
 (s_one (s_expr (d_append (dv 3) (da_cons (d_op op_addA od_addA (d_op op_addA od_addA (d_op op_addA od_addA d_str (dv 0)) d_str) (dv 4)) da_nil)))))
 (s_cons (s_setO (i := 3) (by exact o.nd) rfl (by first | exact .inl rfl | exact .inr rfl) (f_addL (dv 3) (d_frz (f_lst (da_cons (d_op op_addA od_addA (d_op op_addA od_addA (d_op op_addA od_addA (d_op op_addA od_addA d_str (dv 0)) d_str) (dv 0)) d_str) (da_cons (d_op op_addA od_addA (d_op op_addA od_addA (d_op op_addA od_addA (d_op op_addA od_addA d_str (dv 0)) d_str) (dv 1)) d_str) da_nil))))))
 (s_cons (s_for o.po (by exact o.calm) (i_any (d_frz (f_lst (da_cons d_str (da_cons d_str (da_cons d_str (da_cons d_str (da_cons d_str (da_cons d_str (da_cons d_str da_nil)))))))))) (g_name (i := 4) (by exact o.nd) rfl (by first | exact .inl rfl | exact .inr rfl))
 (s_one (s_expr (d_append (dv 3) (da_cons (d_op op_addA od_addA (d_op op_addA od_addA (dv 2) d_str) (dv 4)) da_nil)))))
 (s_cons (s_for o.po (by exact o.calm) (i_any (d_frz (f_lst (da_cons d_str (da_cons d_str (da_cons d_str (da_cons d_str (da_cons d_str (da_cons d_str da_nil))))))))) (g_name (i := 4) (by exact o.nd) rfl (by first | exact .inl rfl | exact .inr rfl))
 (s_one (s_expr (d_append (dv 3) (da_cons (d_op op_addA od_addA (d_op op_addA od_addA (dv 2) d_str) (dv 4)) da_nil)))))
 (s_cons (s_setO (i := 3) (by exact o.nd) rfl (by first | exact .inl rfl | exact .inr rfl) (f_addL (dv 3) (d_frz (f_lst (da_cons (d_op op_addA od_addA (dv 2) d_str) (da_cons (d_op op_addA od_addA (dv 2) d_str) da_nil))))))
 (s_cons (s_for o.po (by exact o.calm) (i_any (d_frz (f_lst (da_cons d_str (da_cons d_str (da_cons d_str (da_cons d_str (da_cons d_str (da_cons d_str da_nil))))))))) (g_name (i := 4) (by exact o.nd) rfl (by first | exact .inl rfl | exact .inr rfl))
 (s_one (s_expr (d_append (dv 3) (da_cons (d_op op_addA od_addA (d_op op_addA od_addA (dv 2) d_str) (dv 4)) da_nil)))))
 (s_one (s_ret (d_op op_addA od_addA (dv 3) (d_frz (f_lst (da_cons (d_op op_addA od_addA (dv 2) d_str) (da_cons (d_op op_addA od_addA (dv 2) d_str) (da_cons (d_op op_addA od_addA (dv 2) d_str) (da_cons (d_op op_addA od_addA (d_op op_addA od_addA (dv 0) d_str) (dv 1)) da_nil))))))))))))))))))))))))) fun _ _ _ => .inr rfl⟩
def m__law_told (ga : Str → Addr) : M Fl := (sq (tryM (ga "BadTongue") 1 (dropM (makeM (ga "Tongue") 1 (F_Tongue___init__ ga) [] (aCons (sm1 joinD (mret (D.str (cs "\n"))) (vr 0)) aNil))) (fun a1 y1 => (sq (asgM (andV (isxM a1 true (vr 1)) (andV (isxM a1 true (vr 1)) (notV (isxM a1 false (vr 1))))) (gN 2))
 (retM (ifD (tstD (vr 2)) (exfM a1 y1 "line" (vr 1)) (negD (mret (D.int 1))))))))
 (retM (mret (D.int 0))))
def F__law_told (ga : Str → Addr) : FD := runB 3 (m__law_told ga)
theorem sc__law_told : FnScope ["_law_lines", "e", "_law_good"] ["_law_lines"] (defScope (topS 39)) := ⟨rfl, rfl, rfl, by decide +kernel, rfl, by decide +kernel, by decide +kernel⟩
theorem ok__law_told (T : Tx P w K mg) : ∃ fd, Binds K fd ["_law_lines"] [] ∧ PySem.W.keepIn K (.ref (He.ga K "_law_told")) = true ∧ FnOk P w K mg base (L2.CX P w) 7 (He.ga K "_law_told") fd ["_law_lines"] (spF K 1 (F__law_told (He.ga K))) := by
  obtain ⟨fd_Tongue___init__, b_Tongue___init__, k_Tongue___init__, G_Tongue___init__⟩ := ok_Tongue___init__ (P := P) (base := base) T
  obtain ⟨fd, F⟩ := T.fn 16 (at_ := ("_law_told", none)) (n := "_law_told") (q := "_law_told") (st := (topS 39)) rfl
  have b := F.binds (ps := ["_law_lines"]) fun _ _ _ _ _ _ us hl => match us, hl with | [_], _ => rfl
  exact ⟨fd, b, F.kp, fnD F sc__law_told rfl (by decide) (fun cdv A outer s H E Z o => (show _ from
   (s_cons (s_try (C := He.ga K "BadTongue") (i := 1) o rfl rfl rfl rfl ⟨by rfl, by decide, .inl (T.glo 62 rfl)⟩ (T.exm 66 rfl) (fun W1 pn1 xe1 o1 => (show _ from (s_one (s_expr (d_make (dds := []) (o1.low (by decide)) (T.mkr 36 rfl) G_Tongue___init__ (by rfl) (T.glo 34 rfl) b_Tongue___init__ .nil (fun _ => rfl) (da_cons (d_m1 PySem.F.slot_str_join PySem.F.type_str_join mt_join md_join d_str (dv 0)) da_nil))))))
 (fun a1 oe1 d1 pn1 Z1 y1 hz1 hf1 xr1 => (show _ from (s_cons (s_set (i := 2) (by exact o.nd) rfl (by first | exact .inl rfl | exact .inr rfl) (d_and (d_isx (dv 1) (T.err 0 (d := er_BadTongue) rfl).2.1 hz1 hf1 xr1 (pe_glob (v := .ref (He.ga K "RemarkError")) (u := .ref (He.ga K "RemarkError")) (by rfl) (T.glo 63 rfl) rfl) (fun u h => h) (T.kit 0 (d := ⟨"BadTongue", .own "RemarkError", true⟩) rfl) (by rfl) (T.free 54 rfl)) (d_and (d_isx (dv 1) (T.err 0 (d := er_BadTongue) rfl).2.1 hz1 hf1 xr1 (pe_bltn (v := .ty "ValueError") (u := .type "ValueError") (by rfl) (T.free 64 rfl) (by decide +kernel) rfl) (fun u h => h) (T.kit 1 (d := ⟨"BadTongue", .blt "ValueError", true⟩) rfl) (by rfl) (T.free 54 rfl)) (d_one (d_not (d_isx (dv 1) (T.err 0 (d := er_BadTongue) rfl).2.1 hz1 hf1 xr1 (pe_glob (v := .ref (He.ga K "BadCommand")) (u := .ref (He.ga K "BadCommand")) (by rfl) (T.glo 65 rfl) rfl) (fun u h => h) (T.kit 2 (d := ⟨"BadTongue", .own "BadCommand", false⟩) rfl) (by rfl) (T.free 54 rfl)))))))
 (s_one (s_ret (d_if (t_val (dv 2)) (d_exf (dv 1) (T.err 0 (d := er_BadTongue) rfl).2.1 ((T.err 0 (d := er_BadTongue) rfl).2.2 "line" (by decide)) hz1 hf1 xr1) (d_neg d_int))))))))
 (s_one (s_ret d_int))))) fun _ _ _ => .inr rfl⟩
def m__law_near_lines (ga : Str → Addr) : M Fl := (sq (asgM (binD addA (binD addA (binD addA (mret (D.str (cs "remark "))) (vr 0)) (mret (D.str (cs " to ")))) (vr 1)) (gN 2))
 (sq (asgM (frz (lstM (aCons (binD addA (binD addA (mret (D.str (cs "remark "))) (vr 0)) (mret (D.str (cs " to line")))) (aCons (binD addA (binD addA (binD addA (mret (D.str (cs "quote "))) (vr 0)) (mret (D.str (cs " to line escape ")))) (binD ixD (vr 0) (mret (D.int 0)))) (aCons (binD addA (vr 2) (mret (D.str (cs " nested 2")))) aNil))))) (gN 3))
 (sq (asgM (binD addA (vr 3) (frz (lstM (aCons (binD addA (vr 2) (mret (D.str (cs " nested 4 escape ! line")))) (aCons (binD addA (vr 2) (mret (D.str (cs " escape ! doubled line")))) aNil))))) (gN 3))
 (sq (asgM (binD addA (vr 3) (frz (lstM (aCons (binD addA (vr 2) (mret (D.str (cs " doubled")))) (aCons (binD addA (vr 2) (mret (D.str (cs " line")))) aNil))))) (gN 3))
 (sq (asgM (binD addA (vr 3) (frz (lstM (aCons (binD addA (binD addA (binD addA (mret (D.str (cs "quote "))) (vr 0)) (mret (D.str (cs " to ")))) (vr 0)) (aCons (binD addA (binD addA (binD addA (binD addA (mret (D.str (cs "quote "))) (vr 0)) (mret (D.str (cs " to ")))) (vr 0)) (mret (D.str (cs " doubled")))) (aCons (binD addA (vr 2) (mret (D.str (cs " nested 3 line")))) aNil)))))) (gN 3))
 (retM (binD addA (vr 3) (frz (lstM (aCons (binD addA (binD addA (binD addA (binD addA (binD addA (binD addA (mret (D.str (cs "quote "))) (vr 0)) (mret (D.str (cs " to ")))) (vr 1)) (mret (D.str (cs " escape ")))) (binD ixD (vr 1) (mret (D.int 0)))) (mret (D.str (cs " line")))) (aCons (binD addA (binD addA (mret (D.str (cs "remark "))) (vr 0)) (mret (D.str (cs " to ????")))) aNil)))))))))))
def F__law_near_lines (ga : Str → Addr) : FD := runB 4 (m__law_near_lines ga)
theorem sc__law_near_lines : FnScope ["_law_one", "_law_two", "_law_pair", "_law_found"] ["_law_one", "_law_two"] (defScope (topS 40)) := ⟨rfl, rfl, rfl, by decide +kernel, rfl, by decide +kernel, by decide +kernel⟩
theorem ok__law_near_lines (T : Tx P w K mg) : ∃ fd, Binds K fd ["_law_one", "_law_two"] [] ∧ PySem.W.keepIn K (.ref (He.ga K "_law_near_lines")) = true ∧ FnOk P w K mg base (L2.CX P w) 1 (He.ga K "_law_near_lines") fd ["_law_one", "_law_two"] (spF K 2 (F__law_near_lines (He.ga K))) := by
  obtain ⟨fd, F⟩ := T.fn 17 (at_ := ("_law_near_lines", none)) (n := "_law_near_lines") (q := "_law_near_lines") (st := (topS 40)) rfl
  have b := F.binds (ps := ["_law_one", "_law_two"]) fun _ _ _ _ _ _ us hl => match us, hl with | [_, _], _ => rfl
  exact ⟨fd, b, F.kp, fnD F sc__law_near_lines rfl (by decide) (fun cdv A outer s H E Z o => (show _ from
   (s_cons (s_set (i := 2) (by exact o.nd) rfl (by first | exact .inl rfl | exact .inr rfl) (d_op op_addA od_addA (d_op op_addA od_addA (d_op op_addA od_addA d_str (dv 0)) d_str) (dv 1)))
 (s_cons (s_set (i := 3) (by exact o.nd) rfl (by first | exact .inl rfl | exact .inr rfl) (d_frz (f_lst (da_cons (d_op op_addA od_addA (d_op op_addA od_addA d_str (dv 0)) d_str) (da_cons (d_op op_addA od_addA (d_op op_addA od_addA (d_op op_addA od_addA d_str (dv 0)) d_str) (d_ix (dv 0) d_int)) (da_cons (d_op op_addA od_addA (dv 2) d_str) da_nil))))))
 (s_cons (s_set (i := 3) (by exact o.nd) rfl (by first | exact .inl rfl | exact .inr rfl) (d_op op_addA od_addA (dv 3) (d_frz (f_lst (da_cons (d_op op_addA od_addA (dv 2) d_str) (da_cons (d_op op_addA od_addA (dv 2) d_str) da_nil))))))
 (s_cons (s_set (i := 3) (by exact o.nd) rfl (by first | exact .inl rfl | exact .inr rfl) (d_op op_addA od_addA (dv 3) (d_frz (f_lst (da_cons (d_op op_addA od_addA (dv 2) d_str) (da_cons (d_op op_addA od_addA (dv 2) d_str) da_nil))))))
 (s_cons (s_set (i := 3) (by exact o.nd) rfl (by first | exact .inl rfl | exact .inr rfl) (d_op op_addA od_addA (dv 3) (d_frz (f_lst (da_cons (d_op op_addA od_addA (d_op op_addA od_addA (d_op op_addA od_addA d_str (dv 0)) d_str) (dv 0)) (da_cons (d_op op_addA od_addA (d_op op_addA od_addA (d_op op_addA od_addA (d_op op_addA od_addA d_str (dv 0)) d_str) (dv 0)) d_str) (da_cons (d_op op_addA od_addA (dv 2) d_str) da_nil)))))))
 (s_one (s_ret (d_op op_addA od_addA (dv 3) (d_frz (f_lst (da_cons (d_op op_addA od_addA (d_op op_addA od_addA (d_op op_addA od_addA (d_op op_addA od_addA (d_op op_addA od_addA (d_op op_addA od_addA d_str (dv 0)) d_str) (dv 1)) d_str) (d_ix (dv 1) d_int)) d_str) (da_cons (d_op op_addA od_addA (d_op op_addA od_addA d_str (dv 0)) d_str) da_nil)))))))))))))) fun _ _ _ => .inr rfl⟩
def m_law (ga : Str → Addr) : M Fl := (sq (setSh 1 (callO 1 (F__law_begun_pen ga) [] (aCons (vr 0) aNil)))
 (sq (forM' (rngM1 (aCons (mret (D.int 6)) aNil)) (gN 2)
 (sq (asgM (callN 2 (F__law_shuffled ga) [] (aCons (vr 1) (aCons (callN 0 (F__law_mark_signs ga) [] aNil) aNil))) (gN 3))
 (sq (asgM (frz (lcM (anyI (slM slcD (vr 3) noP (someP (mret (D.int 9))))) [12] (gN 12) yesM (binD addA (vr 12) (sm1 joinD (mret (D.str (cs ""))) (frz (lcM (rngM1 (aCons (callN 2 (F__law_draw ga) [] (aCons (vr 1) (aCons (mret (D.int 4)) aNil))) aNil)) [14] (gN 14) yesM (callN 2 (F__law_pick ga) [] (aCons (vr 1) (aCons (vr 3) aNil))))))))) (gN 4))
 (sq (asgM (frz (lcM (anyI (vr 4)) [13] (gN 13) yesM (callN 1 (F__law_rule_text ga) [] (aCons (callN 4 (F__law_new_rule ga) [] (aCons (vr 1) (aCons (vr 13) (aCons (slM slcD (vr 3) noP (someP (mret (D.int 4)))) (aCons (mret (D.int 4)) aNil))))) aNil)))) (gN 5))
 (sq (ifM (orT (tstB (binD neD (callN 1 (F__law_told ga) [] (aCons (slM slcD (vr 5) noP (someP (mret (D.int 6)))) aNil)) (mret (D.int 0)))) (tstB (binD neD (callN 1 (F__law_told ga) [] (aCons (slM slcD (vr 5) noP (someP (binD addA (mret (D.int 7)) (callN 2 (F__law_draw ga) [] (aCons (vr 1) (aCons (mret (D.int 3)) aNil)))))) aNil)) (mret (D.int 7)))))
 (retM (mret (D.bl false)))
 (mret Fl.nx))
 (sq (parDD 6 7 (slM slcD (vr 5) noP (someP (callN 2 (F__law_draw ga) [] (aCons (vr 1) (aCons (mret (D.int 6)) aNil))))) (callN 2 (F__law_draw ga) [] (aCons (vr 1) (aCons (mret (D.int 6)) aNil))))
 (sq (asgM (calM min2D (aCons (vr 7) (aCons (calM lenD (aCons (vr 6) aNil)) aNil))) (gN 7))
 (sq (asgM (callN 2 (F__law_pick ga) [] (aCons (vr 1) (aCons (callN 2 (F__law_wrong_lines ga) [] (aCons (binD ixD (vr 4) (mret (D.int 7))) (aCons (binD ixD (vr 4) (mret (D.int 8))) aNil))) aNil))) (gN 8))
 (sq (setO 9 (addF (binD addA (slM slcD (vr 6) noP (someP (vr 7))) (frz (lstM (aCons (vr 8) aNil)))) (slM slcD (vr 6) (someP (vr 7)) noP)))
 (sq (ifM (tstB (binD eqD (callN 2 (F__law_draw ga) [] (aCons (vr 1) (aCons (mret (D.int 3)) aNil))) (mret (D.int 0))))
 (dropM (apM (vr 9) (aCons (callN 2 (F__law_pick ga) [] (aCons (vr 1) (aCons (callN 2 (F__law_wrong_lines ga) [] (aCons (binD ixD (vr 4) (mret (D.int 8))) (aCons (binD ixD (vr 4) (mret (D.int 7))) aNil))) aNil))) aNil)))
 (mret Fl.nx))
 (sq (ifM (andT (tstB (binD neD (vr 9) (frz (lstM (aCons (mret (D.str (cs ""))) aNil))))) (tstB (binD neD (callN 1 (F__law_told ga) [] (aCons (vr 9) aNil)) (binD addA (vr 7) (mret (D.int 1))))))
 (retM (mret (D.bl false)))
 (mret Fl.nx))
 (sq (asgM (callN 2 (F__law_pick ga) [] (aCons (vr 1) (aCons (callN 2 (F__law_near_lines ga) [] (aCons (binD ixD (vr 4) (mret (D.int 7))) (aCons (binD ixD (vr 4) (mret (D.int 8))) aNil))) aNil))) (gN 10))
 (sq (ifM (tstB (binD neD (callN 1 (F__law_told ga) [] (aCons (binD addA (binD addA (slM slcD (vr 6) noP (someP (vr 7))) (frz (lstM (aCons (vr 10) aNil)))) (slM slcD (vr 6) (someP (vr 7)) noP)) aNil)) (mret (D.int 0))))
 (retM (mret (D.bl false)))
 (mret Fl.nx))
 (ifM (tstB (binD fGt (vr 7) (mret (D.int 0))))
 (sq (asgM (binD addA (binD addA (mret (D.str (cs "quote "))) (binD ixD (sm1 splitD (binD ixD (vr 6) (callN 2 (F__law_draw ga) [] (aCons (vr 1) (aCons (vr 7) aNil)))) (mret (D.str (cs " ")))) (mret (D.int 1)))) (mret (D.str (cs " to .")))) (gN 11))
 (sq (ifM (tstB (binD neD (callN 1 (F__law_told ga) [] (aCons (binD addA (binD addA (slM slcD (vr 6) noP (someP (vr 7))) (frz (lstM (aCons (vr 11) aNil)))) (slM slcD (vr 6) (someP (vr 7)) noP)) aNil)) (binD addA (vr 7) (mret (D.int 1)))))
 (retM (mret (D.bl false)))
 (mret Fl.nx))
 (ifM (orT (tstB (binD neD (callN 1 (F__law_told ga) [] (aCons (binD addA (slM slcD (vr 6) noP (someP (vr 7))) (frz (lstM (aCons (vr 11) (aCons (vr 8) aNil))))) aNil)) (binD addA (vr 7) (mret (D.int 1))))) (tstB (binD neD (callN 1 (F__law_told ga) [] (aCons (binD addA (slM slcD (vr 6) noP (someP (vr 7))) (frz (lstM (aCons (vr 8) (aCons (vr 11) aNil))))) aNil)) (binD addA (vr 7) (mret (D.int 1))))))
 (retM (mret (D.bl false)))
 (mret Fl.nx))))
 (mret Fl.nx)))))))))))))))
 (retM (mret (D.bl true)))))
def F_law (ga : Str → Addr) : FD := runB 15 (m_law ga)
theorem sc_law : FnScope ["_law_script", "_law_pen", "_law_turn", "_law_signs", "_law_marks", "_law_rules", "_law_lines", "_law_at", "_law_wrong", "_law_changed", "_law_near", "_law_again", "_law_sign", "_law_mark", "_law_k"] ["_law_script"] (defScope (topS 41)) := ⟨rfl, rfl, rfl, by decide +kernel, rfl, by decide +kernel, by decide +kernel⟩
theorem ok_law (T : Tx P w K mg) {fd : FuncData} (F : Fun K "law" "law" (topS 41) (He.ga K "law") fd) : FnOk P w K mg base (L2.CX P w) 8 (He.ga K "law") fd ["_law_script"] (spF K 1 (F_law (He.ga K))) := by
  obtain ⟨fd__law_begun_pen, b__law_begun_pen, k__law_begun_pen, G__law_begun_pen⟩ := ok__law_begun_pen (P := P) (base := base) T
  obtain ⟨fd__law_shuffled, b__law_shuffled, k__law_shuffled, G__law_shuffled⟩ := ok__law_shuffled (P := P) (base := base) T
  obtain ⟨fd__law_pick, b__law_pick, k__law_pick, G__law_pick⟩ := ok__law_pick (P := P) (base := base) T
  obtain ⟨fd__law_mark_signs, b__law_mark_signs, k__law_mark_signs, G__law_mark_signs⟩ := ok__law_mark_signs (P := P) (base := base) T
  obtain ⟨fd__law_rule_text, b__law_rule_text, k__law_rule_text, G__law_rule_text⟩ := ok__law_rule_text (P := P) (base := base) T
  obtain ⟨fd__law_draw, b__law_draw, k__law_draw, G__law_draw⟩ := ok__law_draw (P := P) (base := base) T
  obtain ⟨fd__law_wrong_lines, b__law_wrong_lines, k__law_wrong_lines, G__law_wrong_lines⟩ := ok__law_wrong_lines (P := P) (base := base) T
  obtain ⟨fd__law_near_lines, b__law_near_lines, k__law_near_lines, G__law_near_lines⟩ := ok__law_near_lines (P := P) (base := base) T
  obtain ⟨fd__law_told, b__law_told, k__law_told, G__law_told⟩ := ok__law_told (P := P) (base := base) T
  obtain ⟨fd__law_new_rule, b__law_new_rule, k__law_new_rule, G__law_new_rule⟩ := ok__law_new_rule (P := P) (base := base) T
  exact (fnD F sc_law rfl (by decide) (fun cdv A outer s H E Z o => (show _ from
   (s_cons (s_setSh (i := 1) (by exact o.nd) rfl (by first | exact .inl rfl | exact .inr rfl) (f_call (dds := []) (o.low (by decide)) G__law_begun_pen (by rfl) (T.glo 12 rfl) k__law_begun_pen b__law_begun_pen .nil (fun _ => rfl) (da_cons (dv 0) da_nil)))
 (s_cons (s_for o.po (by exact o.calm) (i_range1 (by rfl) (T.free 59 rfl) (da_cons d_int da_nil)) (g_name (i := 2) (by exact o.nd) rfl (by first | exact .inl rfl | exact .inr rfl))
 (s_cons (s_set (i := 3) (by exact o.nd) rfl (by first | exact .inl rfl | exact .inr rfl) (d_call (dds := []) (o.low (by decide)) G__law_shuffled (by rfl) (T.glo 15 rfl) k__law_shuffled b__law_shuffled .nil (fun _ => rfl) (da_cons (dv 1) (da_cons (d_call0 (dds := []) (o.low (by decide)) G__law_mark_signs (by rfl) (T.glo 17 rfl) k__law_mark_signs b__law_mark_signs .nil (fun _ => rfl)) da_nil))))
 (s_cons (s_lcD (ps_lcC [("_law_sign", 12)] (by exact o.calm) (by exact o.nd) (i := 4) (by rfl) (by rfl) (by rfl) (i_c (i_any (d_slice sl_any sd_any (dv 3) o_none (o_some d_int)))) (show BlkOk ["_law_script", "_law_pen", "_law_turn", "_law_signs", "_law_marks", "_law_rules", "_law_lines", "_law_at", "_law_wrong", "_law_changed", "_law_near", "_law_again", "_law_sign", "_law_mark", "_law_k"] (defScope (topS 41)) _ [("_law_sign", 12)] from ⟨rfl, by decide +kernel, by decide +kernel, by decide +kernel, by decide +kernel⟩) (by decide) (fun s1 H1 C1 cl1 fp1 Z => (g_name (i := 12) (by exact o.nd) rfl (by first | exact .inl rfl | exact .inr rfl))) (fun s1 H1 C1 cl1 fp1 Z => (d_op op_addA od_addA (dv 12) (d_m1 PySem.F.slot_str_join PySem.F.type_str_join mt_join md_join d_str (d_frz (f_lcC [("_law_k", 14)] (by exact o.calm) (by exact o.nd) (i_c (i_range1 (by rfl) (T.free 59 rfl) (da_cons (d_call (dds := []) ((o.blk s1 H1 _ _ fp1).low (by decide)) G__law_draw (by rfl) (T.glo 13 rfl) k__law_draw b__law_draw .nil (fun _ => rfl) (da_cons (dv 1) (da_cons d_int da_nil))) da_nil))) ⟨rfl, of_decide_eq_true (by kernel_rfl), of_decide_eq_true (by kernel_rfl), of_decide_eq_true (by kernel_rfl), of_decide_eq_true (by kernel_rfl)⟩ (by decide) (fun s2 H2 C2 cl2 fp2 Z => (g_name (i := 14) (by exact o.nd) rfl (by first | exact .inl rfl | exact .inr rfl))) (fun s2 H2 C2 cl2 fp2 Z => (d_call (dds := []) (((o.blk s1 H1 _ _ fp1).blk s2 H2 _ _ fp2).low (by decide)) G__law_pick (by rfl) (T.glo 14 rfl) k__law_pick b__law_pick .nil (fun _ => rfl) (da_cons (dv 1) (da_cons (dv 3) da_nil)))))))))))
 (s_cons (s_lcD (ps_lcC [("_law_mark", 13)] (by exact o.calm) (by exact o.nd) (i := 5) (by rfl) (by rfl) (by rfl) (i_c (i_any (dv 4))) (show BlkOk ["_law_script", "_law_pen", "_law_turn", "_law_signs", "_law_marks", "_law_rules", "_law_lines", "_law_at", "_law_wrong", "_law_changed", "_law_near", "_law_again", "_law_sign", "_law_mark", "_law_k"] (defScope (topS 41)) _ [("_law_mark", 13)] from ⟨rfl, by decide +kernel, by decide +kernel, by decide +kernel, by decide +kernel⟩) (by decide) (fun s3 H3 C3 cl3 fp3 Z => (g_name (i := 13) (by exact o.nd) rfl (by first | exact .inl rfl | exact .inr rfl))) (fun s3 H3 C3 cl3 fp3 Z => (d_call (dds := []) ((o.blk s3 H3 _ _ fp3).low (by decide)) G__law_rule_text (by rfl) (T.glo 16 rfl) k__law_rule_text b__law_rule_text .nil (fun _ => rfl) (da_cons (d_call (dds := []) ((o.blk s3 H3 _ _ fp3).low (by decide)) G__law_new_rule (by rfl) (T.glo 19 rfl) k__law_new_rule b__law_new_rule .nil (fun _ => rfl) (da_cons (dv 1) (da_cons (dv 13) (da_cons (d_slice sl_any sd_any (dv 3) o_none (o_some d_int)) (da_cons d_int da_nil))))) da_nil)))))
 (s_cons (s_if ((w_or (t_cmp (op_neS o.hu) od_ne (d_call (dds := []) (o.low (by decide)) G__law_told (by rfl) (T.glo 21 rfl) k__law_told b__law_told .nil (fun _ => rfl) (da_cons (d_slice sl_any sd_any (dv 5) o_none (o_some d_int)) da_nil)) d_int (by rfl)) (w_or1 (t_cmp (op_neS o.hu) od_ne (d_call (dds := []) (o.low (by decide)) G__law_told (by rfl) (T.glo 21 rfl) k__law_told b__law_told .nil (fun _ => rfl) (da_cons (d_slice sl_any sd_any (dv 5) o_none (o_some (d_op op_addA od_addA d_int (d_call (dds := []) (o.low (by decide)) G__law_draw (by rfl) (T.glo 13 rfl) k__law_draw b__law_draw .nil (fun _ => rfl) (da_cons (dv 1) (da_cons d_int da_nil)))))) da_nil)) d_int (by rfl))))).pt
 (s_one (s_ret d_bl))
 s_nil)
 (s_cons (s_parDD (i := 6) (j := 7) o ⟨rfl, rfl, by decide, rfl, rfl, rfl, rfl, rfl, rfl⟩ (d_slice sl_any sd_any (dv 5) o_none (o_some (d_call (dds := []) (o.low (by decide)) G__law_draw (by rfl) (T.glo 13 rfl) k__law_draw b__law_draw .nil (fun _ => rfl) (da_cons (dv 1) (da_cons d_int da_nil))))) (d_call (dds := []) (o.low (by decide)) G__law_draw (by rfl) (T.glo 13 rfl) k__law_draw b__law_draw .nil (fun _ => rfl) (da_cons (dv 1) (da_cons d_int da_nil))))
 (s_cons (s_set (i := 7) (by exact o.nd) rfl (by first | exact .inl rfl | exact .inr rfl) (d_callB (call_min2 (by exact o.calm)) cd_min2 (by rfl) (T.free 58 rfl) (by decide +kernel) (da_cons (dv 7) (da_cons (d_callB call_len cd_len (by rfl) (T.free 55 rfl) (by decide +kernel) (da_cons (dv 6) da_nil)) da_nil))))
 (s_cons (s_set (i := 8) (by exact o.nd) rfl (by first | exact .inl rfl | exact .inr rfl) (d_call (dds := []) (o.low (by decide)) G__law_pick (by rfl) (T.glo 14 rfl) k__law_pick b__law_pick .nil (fun _ => rfl) (da_cons (dv 1) (da_cons (d_call (dds := []) (o.low (by decide)) G__law_wrong_lines (by rfl) (T.glo 20 rfl) k__law_wrong_lines b__law_wrong_lines .nil (fun _ => rfl) (da_cons (d_ix (dv 4) d_int) (da_cons (d_ix (dv 4) d_int) da_nil))) da_nil))))
 (s_cons (s_setO (i := 9) (by exact o.nd) rfl (by first | exact .inl rfl | exact .inr rfl) (f_addL (d_op op_addA od_addA (d_slice sl_any sd_any (dv 6) o_none (o_some (dv 7))) (d_frz (f_lst (da_cons (dv 8) da_nil)))) (d_slice sl_any sd_any (dv 6) (o_some (dv 7)) o_none)))
 (s_cons (s_if (t_cmp (op_eqS o.hu) od_eq (d_call (dds := []) (o.low (by decide)) G__law_draw (by rfl) (T.glo 13 rfl) k__law_draw b__law_draw .nil (fun _ => rfl) (da_cons (dv 1) (da_cons d_int da_nil))) d_int (by rfl))
 (s_one (s_expr (d_append (dv 9) (da_cons (d_call (dds := []) (o.low (by decide)) G__law_pick (by rfl) (T.glo 14 rfl) k__law_pick b__law_pick .nil (fun _ => rfl) (da_cons (dv 1) (da_cons (d_call (dds := []) (o.low (by decide)) G__law_wrong_lines (by rfl) (T.glo 20 rfl) k__law_wrong_lines b__law_wrong_lines .nil (fun _ => rfl) (da_cons (d_ix (dv 4) d_int) (da_cons (d_ix (dv 4) d_int) da_nil))) da_nil))) da_nil))))
 s_nil)
 (s_cons (s_if ((w_and (t_cmp (op_neS o.hu) od_ne (dv 9) (d_frz (f_lst (da_cons d_str da_nil))) (by rfl)) (w_and1 (t_cmp (op_neS o.hu) od_ne (d_call (dds := []) (o.low (by decide)) G__law_told (by rfl) (T.glo 21 rfl) k__law_told b__law_told .nil (fun _ => rfl) (da_cons (dv 9) da_nil)) (d_op op_addA od_addA (dv 7) d_int) (by rfl))))).pt
 (s_one (s_ret d_bl))
 s_nil)
 (s_cons (s_set (i := 10) (by exact o.nd) rfl (by first | exact .inl rfl | exact .inr rfl) (d_call (dds := []) (o.low (by decide)) G__law_pick (by rfl) (T.glo 14 rfl) k__law_pick b__law_pick .nil (fun _ => rfl) (da_cons (dv 1) (da_cons (d_call (dds := []) (o.low (by decide)) G__law_near_lines (by rfl) (T.glo 22 rfl) k__law_near_lines b__law_near_lines .nil (fun _ => rfl) (da_cons (d_ix (dv 4) d_int) (da_cons (d_ix (dv 4) d_int) da_nil))) da_nil))))
 (s_cons (s_if (t_cmp (op_neS o.hu) od_ne (d_call (dds := []) (o.low (by decide)) G__law_told (by rfl) (T.glo 21 rfl) k__law_told b__law_told .nil (fun _ => rfl) (da_cons (d_op op_addA od_addA (d_op op_addA od_addA (d_slice sl_any sd_any (dv 6) o_none (o_some (dv 7))) (d_frz (f_lst (da_cons (dv 10) da_nil)))) (d_slice sl_any sd_any (dv 6) (o_some (dv 7)) o_none)) da_nil)) d_int (by rfl))
 (s_one (s_ret d_bl))
 s_nil)
 (s_one (s_if (t_cmp op_gt od_gt (dv 7) d_int (by rfl))
 (s_cons (s_set (i := 11) (by exact o.nd) rfl (by first | exact .inl rfl | exact .inr rfl) (d_op op_addA od_addA (d_op op_addA od_addA d_str (d_ix (d_m1 PySem.F.slot_str_split PySem.F.type_str_split mt_split md_split (d_ix (dv 6) (d_call (dds := []) (o.low (by decide)) G__law_draw (by rfl) (T.glo 13 rfl) k__law_draw b__law_draw .nil (fun _ => rfl) (da_cons (dv 1) (da_cons (dv 7) da_nil)))) d_str) d_int)) d_str))
 (s_cons (s_if (t_cmp (op_neS o.hu) od_ne (d_call (dds := []) (o.low (by decide)) G__law_told (by rfl) (T.glo 21 rfl) k__law_told b__law_told .nil (fun _ => rfl) (da_cons (d_op op_addA od_addA (d_op op_addA od_addA (d_slice sl_any sd_any (dv 6) o_none (o_some (dv 7))) (d_frz (f_lst (da_cons (dv 11) da_nil)))) (d_slice sl_any sd_any (dv 6) (o_some (dv 7)) o_none)) da_nil)) (d_op op_addA od_addA (dv 7) d_int) (by rfl))
 (s_one (s_ret d_bl))
 s_nil)
 (s_one (s_if ((w_or (t_cmp (op_neS o.hu) od_ne (d_call (dds := []) (o.low (by decide)) G__law_told (by rfl) (T.glo 21 rfl) k__law_told b__law_told .nil (fun _ => rfl) (da_cons (d_op op_addA od_addA (d_slice sl_any sd_any (dv 6) o_none (o_some (dv 7))) (d_frz (f_lst (da_cons (dv 11) (da_cons (dv 8) da_nil))))) da_nil)) (d_op op_addA od_addA (dv 7) d_int) (by rfl)) (w_or1 (t_cmp (op_neS o.hu) od_ne (d_call (dds := []) (o.low (by decide)) G__law_told (by rfl) (T.glo 21 rfl) k__law_told b__law_told .nil (fun _ => rfl) (da_cons (d_op op_addA od_addA (d_slice sl_any sd_any (dv 6) o_none (o_some (dv 7))) (d_frz (f_lst (da_cons (dv 8) (da_cons (dv 11) da_nil))))) da_nil)) (d_op op_addA od_addA (dv 7) d_int) (by rfl))))).pt
 (s_one (s_ret d_bl))
 s_nil))))
 s_nil)))))))))))))))
 (s_one (s_ret d_bl)))))) fun _ _ _ => .inr rfl)
end
end
end K02
end
section -- MB_k02
set_option Elab.async false
set_option linter.all false
set_option maxRecDepth 100000
set_option maxHeartbeats 1000000
namespace K02
open PySem PySem.Spec L2 DL
/-- a rule -/
structure Rl where
  let_ : List Nat
  op : List Nat
  cl : List Nat
  most : Int
  esc : List Nat
  dbl : Bool
  eol : Bool
variable (ga : Str → Addr)
def encR (r : Rl) : D := .obj (ga "Rule") [("letter", .str r.let_), ("opening", .str r.op), ("closing", .str r.cl), ("most", .int r.most), ("escape", .str r.esc), ("is_doubled", .bl r.dbl), ("ends_at_lines", .bl r.eol)]
section
variable {ga} {r : Rl} {s : S}
@[simp] theorem fz_R : fz (encR ga r) s = .ok (encR ga r) s := rfl
@[simp] theorem f_let : fldOf (ga "Rule") "letter" s (encR ga r) = some (.str r.let_) := by show (if ga "Rule" = ga "Rule" then _ else _) = _; rw [if_pos rfl]; rfl
@[simp] theorem f_op : fldOf (ga "Rule") "opening" s (encR ga r) = some (.str r.op) := by show (if ga "Rule" = ga "Rule" then _ else _) = _; rw [if_pos rfl]; rfl
@[simp] theorem f_cl : fldOf (ga "Rule") "closing" s (encR ga r) = some (.str r.cl) := by show (if ga "Rule" = ga "Rule" then _ else _) = _; rw [if_pos rfl]; rfl
@[simp] theorem f_most : fldOf (ga "Rule") "most" s (encR ga r) = some (.int r.most) := by show (if ga "Rule" = ga "Rule" then _ else _) = _; rw [if_pos rfl]; rfl
@[simp] theorem f_esc : fldOf (ga "Rule") "escape" s (encR ga r) = some (.str r.esc) := by show (if ga "Rule" = ga "Rule" then _ else _) = _; rw [if_pos rfl]; rfl
@[simp] theorem f_dbl : fldOf (ga "Rule") "is_doubled" s (encR ga r) = some (.bl r.dbl) := by show (if ga "Rule" = ga "Rule" then _ else _) = _; rw [if_pos rfl]; rfl
@[simp] theorem f_eol : fldOf (ga "Rule") "ends_at_lines" s (encR ga r) = some (.bl r.eol) := by show (if ga "Rule" = ga "Rule" then _ else _) = _; rw [if_pos rfl]; rfl
end

/-- a tongue -/
structure Tg where
  text : List Nat
  lines : List (List Nat)
  rules : List Rl
def encT (ga : Str → Addr) (t : Tg) : D := .obj (ga "Tongue") [("text", .str t.text), ("rules", .tup (t.lines.map D.str)), ("forms", .lst (t.rules.map (encR ga)))]
section
variable {t : Tg} {s : S}
@[simp] theorem fz_T : fz (encT ga t) s = .ok (encT ga t) s := rfl
@[simp] theorem f_forms : fldOf (ga "Tongue") "forms" s (encT ga t) = some (.lst (t.rules.map (encR ga))) := by show (if ga "Tongue" = ga "Tongue" then _ else _) = _; rw [if_pos rfl]; rfl
@[simp] theorem f_text : fldOf (ga "Tongue") "text" s (encT ga t) = some (.str t.text) := by show (if ga "Tongue" = ga "Tongue" then _ else _) = _; rw [if_pos rfl]; rfl
@[simp] theorem f_rules : fldOf (ga "Tongue") "rules" s (encT ga t) = some (.tup (t.lines.map D.str)) := by show (if ga "Tongue" = ga "Tongue" then _ else _) = _; rw [if_pos rfl]; rfl
end
@[simp] theorem cs_c : cs "c" = [99] := rfl
/-- a rule as the law has it -/
structure Lw where
  kind : List Nat
  mark : List Nat
  close : List Nat
  deep : Int
  esc : List Nat
  dbl : Bool
  line : Bool
def encL (l : Lw) : D := .tup [.str l.kind, .str l.mark, .str l.close, .int l.deep, .str l.esc, .bl l.dbl, .bl l.line]
def remarkC : List Nat := [114, 101, 109, 97, 114, 107]
def quoteC : List Nat := [113, 117, 111, 116, 101]
/-- a rule that may be drawn -/
structure LwV (l : Lw) : Prop where
  kind : l.kind = remarkC ∨ l.kind = quoteC
  m1 : 1 ≤ l.mark.length
  m4 : l.mark.length ≤ 4
  c4 : l.close.length ≤ 4
  deep : l.deep = 0 ∨ (2 ≤ l.deep ∧ l.deep ≤ 4 ∧ l.kind = remarkC ∧ l.close ≠ [] ∧ l.close ≠ l.mark ∧ l.dbl = false)
  esc : l.esc = [] ∨ ∃ c, l.esc = [c]
  dblC : l.dbl = true → l.close ≠ []
  lineC : l.line = true → l.close ≠ []
structure LsV (ls : List Lw) : Prop where
  all : ∀ l ∈ ls, LwV l
  nd : (ls.map (·.mark)).Nodup
def letterN (l : Lw) : Nat := if l.kind = remarkC then 114 else 113
def toRl (l : Lw) : Rl := ⟨[letterN l], l.mark, l.close, l.deep, l.esc, l.dbl, l.line || decide (l.close = [])⟩
@[simp] theorem cs_nl : cs "\n" = [10] := rfl
end K02
end
section -- KW_k02
set_option Elab.async false
set_option linter.all false
set_option maxRecDepth 100000
set_option maxHeartbeats 1000000
namespace K02
open PySem PySem.Spec L2 DL
variable {ga : Str → Addr}

/-! ### is_mark -/
/-- the signs that may stand in marks -/
def mkS : List Nat := cs "!\"#$&'()*+,-./:;<=>?@\x5b\\]^`{|}~"
theorem mkS_eq : mkS = [33, 34, 35, 36, 38, 39, 40, 41, 42, 43, 44, 45, 46, 47, 58, 59, 60, 61, 62, 63, 64, 91, 92, 93, 94, 96, 123, 124, 125, 126] := by decide +kernel
def isMarkB (w : List Nat) : Bool := decide (1 ≤ w.length) && (decide (w.length ≤ 4) && w.all fun c => decide (c ∈ mkS))
theorem allB_map {α : Type} (p : α → Bool) : ∀ xs : List α, allB (xs.map fun x => .bl (p x)) = some (xs.map p)
  | [] => rfl
  | x :: xs => by rw [List.map_cons, List.map_cons]; show (allB _).map _ = _; rw [allB_map p xs]; rfl
theorem bools_all {α : Type} {s : S} (p : α → Bool) (xs : List α) : boolsD (fun bs => bs.all id) s [.lst (xs.map fun x => .bl (p x))] = some (.bl (xs.all p)) := by
  unfold boolsD
  simp only [x_rdL_lst, Option.bind_some]
  rw [allB_map]
  simp only [Option.map_some, List.all_map]
  rfl
theorem e_is_mark (w : List Nat) (mu : List Own) (hw : w.length ≤ 1000000) : F_is_mark ga [.str w] mu = .ok (.bl (isMarkB w)) mu := by
  have hz : (1000000 : Nat) ≤ sizeLine := by decide
  have z1 : w.length ≤ sizeLine := by omega
  have hlc : lcLoop [.dat (.str w), .non] (gN 1) yesM (binD (inA false) (vr 1) (mret (D.str (cs "!\"#$&'()*+,-./:;<=>?@\x5b\\]^`{|}~")))) (w.map fun c => D.str [c]) [] mu = .ok (w.map fun c => D.bl (decide (c ∈ mkS))) ⟨[.dat (.str w), .non], mu⟩ := by
    rw [lc_al (fun c => D.str [c]) w (fun c => D.bl (decide (c ∈ mkS))) rfl]
    · rfl
    · intro c hc
      simp -implicitDefEqProofs -dsimp
      exact ⟨_, ⟨Iff.rfl, rfl⟩, rfl⟩
    · simpa using z1
  unfold F_is_mark
  rw [x_runB]
  unfold m_is_mark isMarkB
  by_cases c1 : 1 ≤ w.length
  · have c1' : (1 : Int) ≤ (w.length : Int) := by omega
    by_cases c2 : w.length ≤ 4
    · have c2' : (w.length : Int) ≤ 4 := by omega
      simp -implicitDefEqProofs -dsimp [z1, c1, c2, c1', c2', hlc, bools_all]
    · have c2' : ¬ (w.length : Int) ≤ 4 := by omega
      simp -implicitDefEqProofs -dsimp [z1, c1, c2, c1', c2']
  · have c1' : ¬ (1 : Int) ≤ (w.length : Int) := by omega
    simp -implicitDefEqProofs -dsimp [z1, c1, c1']

/-! ### lines_of -/
def linesM (x : List Nat) : List (List Nat) := if x = [] then [] else TL.spl [10] 0 [] x
theorem e_lines_of (x : List Nat) (mu : List Own) (hx : x.length ≤ 1000000) : F_lines_of ga [.str x] mu = .ok (.lst ((linesM x).map D.str)) mu := by
  have hz : (2000000 : Nat) ≤ sizeLine := by decide
  have sp : ∀ s, splitD s x (.str [10]) = some (.lst ((TL.spl [10] 0 [] x).map D.str)) := fun s => split_any (by simp) (by decide) (by omega)
  unfold F_lines_of
  rw [x_runB]
  unfold m_lines_of linesM
  by_cases c : x = []
  · subst c
    simp -implicitDefEqProofs -dsimp
  · simp -implicitDefEqProofs -dsimp [c, sp]

/-! ### options -/
structure Op where
  n : Int
  e : List Nat
  d : Bool
  l : Bool
def encOd (o : Op) : List (Key × D) := [(.inr "nested", .int o.n), (.inr "escape", .str o.e), (.inr "doubled", .bl o.d), (.inr "line", .bl o.l)]
section
variable {s : S} {o : Op}
theorem og_n : dgetD s (.dct (encOd o)) (.str (cs "nested")) = some (.int o.n) := rfl
theorem og_e : dgetD s (.dct (encOd o)) (.str (cs "escape")) = some (.str o.e) := rfl
theorem og_d : dgetD s (.dct (encOd o)) (.str (cs "doubled")) = some (.bl o.d) := rfl
theorem og_l : dgetD s (.dct (encOd o)) (.str (cs "line")) = some (.bl o.l) := rfl
theorem op_n (v : Int) : putK' (encOd o) (.inr (sx (cs "nested"))) (.int v) = encOd { o with n := v } := rfl
theorem op_e (v : List Nat) : putK' (encOd o) (.inr (sx (cs "escape"))) (.str v) = encOd { o with e := v } := rfl
theorem op_d (v : Bool) : putK' (encOd o) (.inr (sx (cs "doubled"))) (.bl v) = encOd { o with d := v } := rfl
theorem op_l (v : Bool) : putK' (encOd o) (.inr (sx (cs "line"))) (.bl v) = encOd { o with l := v } := rfl
end
end K02
end
section -- KX_k02
set_option Elab.async false
set_option linter.all false
set_option maxRecDepth 100000
set_option maxHeartbeats 1000000
namespace K02
open PySem PySem.Spec L2 DL
variable {ga : Str → Addr}

theorem sx_cs (x : Str) : sx (cs x) = x := rfl
def nestedC : List Nat := cs "nested"
def escapeC : List Nat := cs "escape"
def doubledC : List Nat := cs "doubled"
def lineC : List Nat := cs "line"
def optA : List (List Nat) → Option (Int × Nat)
  | a :: r => if a = nestedC then (if r.take 1 = [[50]] then some (2, 2) else if r.take 1 = [[51]] then some (3, 2) else if r.take 1 = [[52]] then some (4, 2) else none) else some (0, 0)
  | [] => some (0, 0)
def optB (ws : List (List Nat)) (a : Nat) : Option (List Nat × Nat) := if (ws.drop a).take 1 = [escapeC] then (match ws[a + 1]? with
  | some w => if w.length = 1 ∧ isMarkB w = true then some (w, a + 2) else none
  | none => none) else some ([], a)
def optC (ws : List (List Nat)) (a : Nat) (w : List Nat) : Bool × Nat := if (ws.drop a).take 1 = [w] then (true, a + 1) else (false, a)
def optsM (ws : List (List Nat)) : Option Op := (optA ws).bind fun q => (optB ws q.2).bind fun p =>
  if (optC ws (optC ws p.2 doubledC).2 lineC).2 = ws.length then some ⟨q.1, p.1, (optC ws p.2 doubledC).1, (optC ws (optC ws p.2 doubledC).2 lineC).1⟩ else none
def encOp : Option Op → D
  | none => .non
  | some o => .dct (encOd o)
def st_ (ws : List (List Nat)) (o : Op) (a : Nat) (z : Sl) (mu : List Own) : S := ⟨[.dat (.lst (ws.map D.str)), .own (.dct (encOd o)), .dat (.int (a : Int)), z], mu⟩
structure WsOk (ws : List (List Nat)) : Prop where
  len : ws.length ≤ 100000
  all : ∀ w ∈ ws, w.length ≤ 100000 ∧ okT w = true

def oA (ga : Str → Addr) : M Fl := (ifM (tstB (binD eqD (slM slcD (vr 0) noP (someP (mret (D.int 1)))) (frz (lstM (aCons (mret (D.str (cs "nested"))) aNil)))))
 (sq (ifM (tstB (binD (inA true) (slM slcD (vr 0) (someP (mret (D.int 1))) (someP (mret (D.int 2)))) (tupM (aCons (frz (lstM (aCons (mret (D.str (cs "2"))) aNil))) (aCons (frz (lstM (aCons (mret (D.str (cs "3"))) aNil))) (aCons (frz (lstM (aCons (mret (D.str (cs "4"))) aNil))) aNil))))))
 (retM (mret D.non))
 (mret Fl.nx))
 (sq (ixS (vr 1) (mret (D.str (cs "nested"))) (calM intS (aCons (binD ixD (vr 0) (mret (D.int 1))) aNil)))
 (asgM (mret (D.int 2)) (gN 2))))
 (mret Fl.nx))
def oB (ga : Str → Addr) : M Fl := (ifM (tstB (binD eqD (slM slcD (vr 0) (someP (vr 2)) (someP (binD addA (vr 2) (mret (D.int 1))))) (frz (lstM (aCons (mret (D.str (cs "escape"))) aNil)))))
 (sq (ifM (orT (tstB (binD eqD (calM lenD (aCons (vr 0) aNil)) (binD addA (vr 2) (mret (D.int 1))))) (orT (tstB (binD neD (calM lenD (aCons (binD ixD (vr 0) (binD addA (vr 2) (mret (D.int 1)))) aNil)) (mret (D.int 1)))) (notT (tstD (callN 1 (F_is_mark ga) [] (aCons (binD ixD (vr 0) (binD addA (vr 2) (mret (D.int 1)))) aNil))))))
 (retM (mret D.non))
 (mret Fl.nx))
 (sq (ixS (vr 1) (mret (D.str (cs "escape"))) (binD ixD (vr 0) (binD addA (vr 2) (mret (D.int 1)))))
 (augI 2 (mret (D.int 2)) (fun i j => i + j))))
 (mret Fl.nx))
def oBody : M Fl := (ifM (tstB (binD eqD (slM slcD (vr 0) (someP (vr 2)) (someP (binD addA (vr 2) (mret (D.int 1))))) (frz (lstM (aCons (vr 3) aNil)))))
 (sq (ixS (vr 1) (vr 3) (mret (D.bl true)))
 (augI 2 (mret (D.int 1)) (fun i j => i + j)))
 (mret Fl.nx))
def oInit : M Fl := (setO 1 (dispM [((Sum.inr "nested"), (mret (D.int 0))), ((Sum.inr "escape"), (mret (D.str (cs "")))), ((Sum.inr "doubled"), (mret (D.bl false))), ((Sum.inr "line"), (mret (D.bl false)))]))
theorem e_oInit (ws : List (List Nat)) (mu : List Own) : oInit ⟨[.dat (.lst (ws.map D.str)), .non, .non, .non], mu⟩ = .ok .nx ⟨[.dat (.lst (ws.map D.str)), .own (.dct (encOd ⟨0, [], false, false⟩)), .non, .non], mu⟩ := rfl
section
variable {ws : List (List Nat)} {s : S}
theorem sl_to (n : Nat) : cutD (ws.map D.str) none (some (n : Int)) = (ws.take n).map D.str := by rw [cut_toD, List.map_take]
theorem sl_mid (a b : Nat) : cutD (ws.map D.str) (some (a : Int)) (some (b : Int)) = ((ws.drop a).take (b - a)).map D.str := by rw [cut_midD, List.map_take, List.map_drop]
theorem sl_one (a : Nat) : cutD (ws.map D.str) (some (a : Int)) (some ((a : Int) + 1)) = ((ws.drop a).take 1).map D.str := by
  have := sl_mid (ws := ws) a (a + 1)
  rwa [Nat.add_sub_cancel_left] at this
theorem WsOk.sub (h : WsOk ws) (a n : Nat) : ∀ x ∈ (ws.drop a).take n, okT x = true := fun x hx => (h.all x (List.mem_of_mem_drop (List.mem_of_mem_take hx))).2
end
theorem int_dig (s : S) : intS s [.str [50]] = some (.int 2) ∧ intS s [.str [51]] = some (.int 3) ∧ intS s [.str [52]] = some (.int 4) := by
  have h : ∀ c : Nat, ∀ n : Int, PySem.intText? (sx [c]) = some n → intS s [.str [c]] = some (.int n) := fun c n e => by
    unfold intS
    simp only
    rw [if_pos (by show 1 ≤ 640; decide), e]
    rfl
  exact ⟨h _ _ (by decide +kernel), h _ _ (by decide +kernel), h _ _ (by decide +kernel)⟩
def stW (W : D) (o : Op) (a : Int) (z : Sl) (mu : List Own) : S := ⟨[.dat W, .own (.dct (encOd o)), .dat (.int a), z], mu⟩
theorem kv4 (o : Op) : (encOd o).length < sizeLine := by show 4 < sizeLine; decide
theorem oA_no {W W1 : D} {o : Op} {a : Int} {z : Sl} {mu : List Own} (h1 : ∀ s, slcD s W none (some 1) = some W1) (f : ∀ s, fz W s = .ok W s)
    (q1 : ∀ s, eqD s W1 (.lst [.str (cs "nested")]) = some (.bl false)) : oA ga (stW W o a z mu) = .ok .nx (stW W o a z mu) := by
  unfold oA stW
  simp -implicitDefEqProofs -dsimp [h1, q1]
theorem oA_bad {W W1 W2 : D} {o : Op} {a : Int} {z : Sl} {mu : List Own} (h1 : ∀ s, slcD s W none (some 1) = some W1) (h2 : ∀ s, slcD s W (some 1) (some 2) = some W2)
    (q1 : ∀ s, eqD s W1 (.lst [.str (cs "nested")]) = some (.bl true)) (q2 : ∀ s, inA true s W2 (.tup [.lst [.str (cs "2")], .lst [.str (cs "3")], .lst [.str (cs "4")]]) = some (.bl true)) : oA ga (stW W o a z mu) = .ok (.rt .non) (stW W o a z mu) := by
  unfold oA stW
  simp -implicitDefEqProofs -dsimp [h1, h2, q1, q2]
theorem oA_yes {W W1 W2 X : D} {o : Op} {a v : Int} {z : Sl} {mu : List Own} (h1 : ∀ s, slcD s W none (some 1) = some W1) (h2 : ∀ s, slcD s W (some 1) (some 2) = some W2)
    (q1 : ∀ s, eqD s W1 (.lst [.str (cs "nested")]) = some (.bl true)) (q2 : ∀ s, inA true s W2 (.tup [.lst [.str (cs "2")], .lst [.str (cs "3")], .lst [.str (cs "4")]]) = some (.bl false))
    (ix : ∀ s, ixD s W (.int 1) = some X) (hi : ∀ s, intS s [X] = some (.int v)) : oA ga (stW W o a z mu) = .ok .nx (stW W { o with n := v } 2 z mu) := by
  have px : ∀ s, ixE (.loc 1) (.str (cs "nested")) (.int v) ⟨[.dat W, .own (.dct (encOd o)), .dat (.int a), z], s⟩ = .ok .nx ⟨[.dat W, .own (.dct (encOd { o with n := v })), .dat (.int a), z], s⟩ := fun s => by rw [ixE_loc (i := 1) rfl (kv4 o)]; rfl
  unfold oA stW
  simp -implicitDefEqProofs -dsimp [h1, h2, q1, q2, ix, hi, px]
theorem WsOk.tail {a : List Nat} {r : List (List Nat)} (h : WsOk (a :: r)) : ∀ x ∈ r.take 1, okT x = true := fun x hx => (h.all x (by simp [List.mem_of_mem_take hx])).2
theorem e_oA (ws : List (List Nat)) (mu : List Own) (ok : WsOk ws) : match optA ws with
  | some q => oA ga (st_ ws ⟨0, [], false, false⟩ 0 .non mu) = .ok .nx (st_ ws ⟨q.1, [], false, false⟩ q.2 .non mu)
  | none => oA ga (st_ ws ⟨0, [], false, false⟩ 0 .non mu) = .ok (.rt .non) (st_ ws ⟨0, [], false, false⟩ 0 .non mu) := by
  have h1 : ∀ s, slcD s (.lst (ws.map D.str)) none (some 1) = some (.lst ((ws.take 1).map D.str)) := fun s => by rw [slc_lst]; exact congrArg (fun z => some (D.lst z)) (sl_to 1)
  have h2 : ∀ s, slcD s (.lst (ws.map D.str)) (some 1) (some 2) = some (.lst (((ws.drop 1).take 1).map D.str)) := fun s => by rw [slc_lst]; exact congrArg (fun z => some (D.lst z)) (sl_mid 1 2)
  have q1 : ∀ s, eqD s (.lst ((ws.take 1).map D.str)) (.lst [.str (cs "nested")]) = some (.bl (decide (ws.take 1 = [nestedC]))) := fun s => eq_strs1 (by simpa using ok.sub 0 1) (by decide +kernel)
  have q2 : ∀ s, inA true s (.lst (((ws.drop 1).take 1).map D.str)) (.tup [.lst [.str (cs "2")], .lst [.str (cs "3")], .lst [.str (cs "4")]]) = some (.bl (!decide ((ws.drop 1).take 1 ∈ [[[50]], [[51]], [[52]]]))) := fun s =>
    in_strs_tup (yss := [[[50]], [[51]], [[52]]]) (ok.sub 1 1) (by decide)
  have dec : ∀ (k : Nat) (v : Int), ws.take 1 = [nestedC] → (ws.drop 1).take 1 = [[k]] → (∀ s, intS s [.str [k]] = some (.int v)) → [[k]] ∈ ([[[50]], [[51]], [[52]]] : List (List (List Nat))) → oA ga (st_ ws ⟨0, [], false, false⟩ 0 .non mu) = .ok .nx (st_ ws ⟨v, [], false, false⟩ 2 .non mu) := by
    intro k v hn hk hi hm
    have g1 : ws[1]? = some [k] := by
      have e : (ws.drop 1)[0]? = some [k] := by
        cases hd : ws.drop 1 with
        | nil => rw [hd] at hk; cases hk
        | cons x r => rw [hd] at hk; simp at hk; subst hk; rfl
      rw [List.getElem?_drop] at e
      exact e
    exact oA_yes h1 h2 (fun s => by rw [q1, decide_eq_true hn]) (fun s => by rw [q2, hk, decide_eq_true hm]; rfl) (fun s => ixD_lst (i := 1) g1) hi
  cases ws with
  | nil =>
    simp only [optA]
    exact oA_no h1 (fun _ => rfl) (fun s => by rw [q1]; rfl)
  | cons a r =>
    by_cases c1 : a = nestedC
    · have hn : (a :: r).take 1 = [nestedC] := by rw [c1]; rfl
      by_cases d1 : r.take 1 = [[50]]
      · have e : optA (a :: r) = some (2, 2) := by simp only [optA]; rw [if_pos c1, if_pos d1]
        rw [e]
        exact dec 50 2 hn d1 (fun s => (int_dig s).1) (by decide)
      · by_cases d2 : r.take 1 = [[51]]
        · have e : optA (a :: r) = some (3, 2) := by simp only [optA]; rw [if_pos c1, if_neg d1, if_pos d2]
          rw [e]
          exact dec 51 3 hn d2 (fun s => (int_dig s).2.1) (by decide)
        · by_cases d3 : r.take 1 = [[52]]
          · have e : optA (a :: r) = some (4, 2) := by simp only [optA]; rw [if_pos c1, if_neg d1, if_neg d2, if_pos d3]
            rw [e]
            exact dec 52 4 hn d3 (fun s => (int_dig s).2.2) (by decide)
          · have e : optA (a :: r) = none := by simp only [optA]; rw [if_pos c1, if_neg d1, if_neg d2, if_neg d3]
            rw [e]
            exact oA_bad h1 h2 (fun s => by rw [q1, decide_eq_true hn]) (fun s => by rw [q2, decide_eq_false (by simp [d1, d2, d3])]; rfl)
    · have e : optA (a :: r) = some (0, 0) := by simp only [optA]; rw [if_neg c1]
      rw [e]
      exact oA_no h1 (fun _ => rfl) (fun s => by rw [q1, decide_eq_false (by simpa using c1)])
end K02
end
section -- KY_k02
set_option Elab.async false
set_option linter.all false
set_option maxRecDepth 100000
set_option maxHeartbeats 1000000
namespace K02
open PySem PySem.Spec L2 DL
variable {ga : Str → Addr}
theorem oB_no {W W1 : D} {o : Op} {a : Int} {z : Sl} {mu : List Own} (h1 : ∀ s, slcD s W (some a) (some (a + 1)) = some W1)
    (q1 : ∀ s, eqD s W1 (.lst [.str (cs "escape")]) = some (.bl false)) : oB ga (stW W o a z mu) = .ok .nx (stW W o a z mu) := by
  unfold oB stW
  simp -implicitDefEqProofs -dsimp [h1, q1]
theorem oB_bad1 {W W1 : D} {o : Op} {a n : Int} {z : Sl} {mu : List Own} (h1 : ∀ s, slcD s W (some a) (some (a + 1)) = some W1) (hl : ∀ s, lenD s [W] = some (.int n)) (hn : n = a + 1)
    (q1 : ∀ s, eqD s W1 (.lst [.str (cs "escape")]) = some (.bl true)) : oB ga (stW W o a z mu) = .ok (.rt .non) (stW W o a z mu) := by
  unfold oB stW
  simp -implicitDefEqProofs -dsimp [h1, q1, hl, hn, -x_len]
theorem oB_bad2 {W W1 : D} {x : List Nat} {o : Op} {a n : Int} {z : Sl} {mu : List Own} (h1 : ∀ s, slcD s W (some a) (some (a + 1)) = some W1) (hl : ∀ s, lenD s [W] = some (.int n)) (hn : ¬ n = a + 1)
    (q1 : ∀ s, eqD s W1 (.lst [.str (cs "escape")]) = some (.bl true)) (ix : ∀ s, ixD s W (.int (a + 1)) = some (.str x)) (hx : x.length ≤ 100000) (hb : ¬ (x.length = 1 ∧ isMarkB x = true)) : oB ga (stW W o a z mu) = .ok (.rt .non) (stW W o a z mu) := by
  have hz : (1000000 : Nat) ≤ sizeLine := by decide
  have l2 : ∀ s, lenD s [.str x] = some (.int (x.length : Int)) := fun s => by rw [x_len]; simp only [x_dd_str]; rw [if_pos (by omega)]
  have mk : F_is_mark ga [.str x] mu = .ok (.bl (isMarkB x)) mu := e_is_mark x mu (by omega)
  unfold oB stW
  by_cases c1 : x.length = 1
  · have c2 : isMarkB x = false := by cases h : isMarkB x with
      | false => rfl
      | true => exact absurd ⟨c1, h⟩ hb
    have c1' : (x.length : Int) = 1 := by omega
    simp -implicitDefEqProofs -dsimp [h1, q1, hl, hn, -x_len, ix, l2, c1', mk, c2]
  · have c1' : ¬ (x.length : Int) = 1 := by omega
    simp -implicitDefEqProofs -dsimp [h1, q1, hl, hn, -x_len, ix, l2, c1', mk]
theorem oB_yes {W W1 : D} {x : List Nat} {o : Op} {a n : Int} {z : Sl} {mu : List Own} (h1 : ∀ s, slcD s W (some a) (some (a + 1)) = some W1) (hl : ∀ s, lenD s [W] = some (.int n)) (hn : ¬ n = a + 1)
    (q1 : ∀ s, eqD s W1 (.lst [.str (cs "escape")]) = some (.bl true)) (ix : ∀ s, ixD s W (.int (a + 1)) = some (.str x)) (c1 : x.length = 1) (c2 : isMarkB x = true) : oB ga (stW W o a z mu) = .ok .nx (stW W { o with e := x } (a + 2) z mu) := by
  have hz : (1000000 : Nat) ≤ sizeLine := by decide
  have l2 : ∀ s, lenD s [.str x] = some (.int (x.length : Int)) := fun s => by rw [x_len]; simp only [x_dd_str]; rw [if_pos (by omega)]
  have mk : F_is_mark ga [.str x] mu = .ok (.bl (isMarkB x)) mu := e_is_mark x mu (by omega)
  have c1' : (x.length : Int) = 1 := by omega
  have px : ∀ s, ixE (.loc 1) (.str (cs "escape")) (.str x) ⟨[.dat W, .own (.dct (encOd o)), .dat (.int a), z], s⟩ = .ok .nx ⟨[.dat W, .own (.dct (encOd { o with e := x })), .dat (.int a), z], s⟩ := fun s => by rw [ixE_loc (i := 1) rfl (kv4 o)]; rfl
  unfold oB stW
  simp -implicitDefEqProofs -dsimp [h1, q1, hl, hn, -x_len, ix, l2, c1', mk, c2, px]
theorem oBody_no {W W1 : D} {w : List Nat} {o : Op} {a : Int} {mu : List Own} (h1 : ∀ s, slcD s W (some a) (some (a + 1)) = some W1)
    (q1 : ∀ s, eqD s W1 (.lst [.str w]) = some (.bl false)) : oBody (stW W o a (.dat (.str w)) mu) = .ok .nx (stW W o a (.dat (.str w)) mu) := by
  unfold oBody stW
  simp -implicitDefEqProofs -dsimp [h1, q1]
theorem oBody_yes {W W1 : D} {w : List Nat} {o o' : Op} {a : Int} {mu : List Own} (h1 : ∀ s, slcD s W (some a) (some (a + 1)) = some W1)
    (q1 : ∀ s, eqD s W1 (.lst [.str w]) = some (.bl true)) (hp : putK' (encOd o) (.inr (sx w)) (.bl true) = encOd o') : oBody (stW W o a (.dat (.str w)) mu) = .ok .nx (stW W o' (a + 1) (.dat (.str w)) mu) := by
  have px : ∀ s, ixE (.loc 1) (.str w) (.bl true) ⟨[.dat W, .own (.dct (encOd o)), .dat (.int a), .dat (.str w)], s⟩ = .ok .nx ⟨[.dat W, .own (.dct (encOd o')), .dat (.int a), .dat (.str w)], s⟩ := fun s => by rw [ixE_loc (i := 1) rfl (kv4 o), hp]; rfl
  unfold oBody stW
  simp -implicitDefEqProofs -dsimp [h1, q1, px]
theorem h1_of {ws : List (List Nat)} (a : Nat) : ∀ s, slcD s (.lst (ws.map D.str)) (some (a : Int)) (some ((a : Int) + 1)) = some (.lst (((ws.drop a).take 1).map D.str)) := fun s => by
  rw [slc_lst]
  exact congrArg (fun z => some (D.lst z)) (sl_one a)
theorem len_of {ws : List (List Nat)} : ∀ s, lenD s [.lst (ws.map D.str)] = some (.int (ws.length : Int)) := fun s => by rw [x_len]; simp
theorem e_oB (ws : List (List Nat)) (mu : List Own) (ok : WsOk ws) (n : Int) (a : Nat) : match optB ws a with
  | some q => oB ga (st_ ws ⟨n, [], false, false⟩ a .non mu) = .ok .nx (st_ ws ⟨n, q.1, false, false⟩ q.2 .non mu)
  | none => oB ga (st_ ws ⟨n, [], false, false⟩ a .non mu) = .ok (.rt .non) (st_ ws ⟨n, [], false, false⟩ a .non mu) := by
  have q1 : ∀ s, eqD s (.lst (((ws.drop a).take 1).map D.str)) (.lst [.str (cs "escape")]) = some (.bl (decide ((ws.drop a).take 1 = [escapeC]))) := fun s => eq_strs1 (ok.sub a 1) (by decide +kernel)
  by_cases c : (ws.drop a).take 1 = [escapeC]
  · have q1' : ∀ s, eqD s (.lst (((ws.drop a).take 1).map D.str)) (.lst [.str (cs "escape")]) = some (.bl true) := fun s => by rw [q1, decide_eq_true c]
    have ha : a < ws.length := by
      apply Classical.byContradiction
      intro z
      rw [List.drop_of_length_le (by omega)] at c
      cases c
    cases hw : ws[a + 1]? with
    | none =>
      have e : optB ws a = none := by unfold optB; rw [if_pos c, hw]
      rw [e]
      have : ws.length ≤ a + 1 := List.getElem?_eq_none_iff.mp hw
      exact oB_bad1 (h1_of a) len_of (by omega) q1'
    | some w =>
      have hlt := (List.getElem?_eq_some_iff.mp hw).1
      have hm : w ∈ ws := List.mem_iff_getElem?.mpr ⟨_, hw⟩
      have ix : ∀ s, ixD s (.lst (ws.map D.str)) (.int ((a : Int) + 1)) = some (.str w) := fun s => ixD_lst (i := a + 1) hw
      by_cases c2 : w.length = 1 ∧ isMarkB w = true
      · have e : optB ws a = some (w, a + 2) := by unfold optB; rw [if_pos c, hw]; simp only; rw [if_pos c2]
        rw [e]
        exact oB_yes (h1_of a) len_of (by omega) q1' ix c2.1 c2.2
      · have e : optB ws a = none := by unfold optB; rw [if_pos c, hw]; simp only; rw [if_neg c2]
        rw [e]
        exact oB_bad2 (h1_of a) len_of (by omega) q1' ix (ok.all w hm).1 c2
  · have e : optB ws a = some ([], a) := by unfold optB; rw [if_neg c]
    rw [e]
    exact oB_no (h1_of a) (fun s => by rw [q1, decide_eq_false c])
theorem e_oBody (ws : List (List Nat)) (mu : List Own) (ok : WsOk ws) (o : Op) (a : Nat) (w : List Nat) (hw : okT w = true) (o' : Op) (hp : putK' (encOd o) (.inr (sx w)) (.bl true) = encOd o') :
    oBody (st_ ws o a (.dat (.str w)) mu) = .ok .nx (st_ ws (if (optC ws a w).1 = true then o' else o) (optC ws a w).2 (.dat (.str w)) mu) := by
  have q1 : ∀ s, eqD s (.lst (((ws.drop a).take 1).map D.str)) (.lst [.str w]) = some (.bl (decide ((ws.drop a).take 1 = [w]))) := fun s => eq_strs1 (ok.sub a 1) hw
  unfold optC
  by_cases c : (ws.drop a).take 1 = [w]
  · rw [if_pos c]
    exact oBody_yes (h1_of a) (fun s => by rw [q1, decide_eq_true c]) hp
  · rw [if_neg c]
    exact oBody_no (h1_of a) (fun s => by rw [q1, decide_eq_false c])
def oFor (ga : Str → Addr) : M Fl := (forM' (anyI (tupM (aCons (mret (D.str (cs "doubled"))) (aCons (mret (D.str (cs "line"))) aNil)))) (gN 3) oBody)
theorem e_oFor (ws : List (List Nat)) (mu : List Own) (ok : WsOk ws) (n : Int) (e : List Nat) (a : Nat) : ∃ z, oFor ga (st_ ws ⟨n, e, false, false⟩ a .non mu) = .ok .nx (st_ ws ⟨n, e, (optC ws a doubledC).1, (optC ws (optC ws a doubledC).2 lineC).1⟩ (optC ws (optC ws a doubledC).2 lineC).2 z mu) := by
  have b1 := e_oBody ws mu ok ⟨n, e, false, false⟩ a doubledC (by decide +kernel) ⟨n, e, true, false⟩ rfl
  have b2 := e_oBody ws mu ok ⟨n, e, (optC ws a doubledC).1, false⟩ (optC ws a doubledC).2 lineC (by decide +kernel) ⟨n, e, (optC ws a doubledC).1, true⟩ rfl
  refine ⟨.dat (.str lineC), ?_⟩
  unfold oFor
  have hi : ∀ s, anyI (tupM (aCons (mret (D.str (cs "doubled"))) (aCons (mret (D.str (cs "line"))) aNil))) s = .ok [.str doubledC, .str lineC] s := fun s => by simp -implicitDefEqProofs -dsimp [doubledC, lineC]
  rw [x_for, hi]
  simp only [R.bind_ok]
  rw [x_loop_cons]
  have g1 : gN 3 (D.str doubledC) (st_ ws ⟨n, e, false, false⟩ a .non mu) = some (st_ ws ⟨n, e, false, false⟩ a (.dat (.str doubledC)) mu) := rfl
  rw [g1]
  simp only
  rw [b1]
  simp only [R.bind_ok]
  have r1 : (if (optC ws a doubledC).1 = true then (⟨n, e, true, false⟩ : Op) else ⟨n, e, false, false⟩) = ⟨n, e, (optC ws a doubledC).1, false⟩ := by cases (optC ws a doubledC).1 <;> rfl
  rw [r1, x_loop_cons]
  have g2 : gN 3 (D.str lineC) (st_ ws ⟨n, e, (optC ws a doubledC).1, false⟩ (optC ws a doubledC).2 (.dat (.str doubledC)) mu) = some (st_ ws ⟨n, e, (optC ws a doubledC).1, false⟩ (optC ws a doubledC).2 (.dat (.str lineC)) mu) := rfl
  rw [g2]
  simp only
  rw [b2]
  simp only [R.bind_ok, x_loop_nil]
  congr 2
  cases (optC ws (optC ws a doubledC).2 lineC).1 <;> rfl
def oRet : M Fl := (retM (ifD (tstB (binD eqD (vr 2) (calM lenD (aCons (vr 0) aNil)))) (vr 1) (mret D.non)))
theorem e_oRet (ws : List (List Nat)) (mu : List Own) (o : Op) (a : Nat) (z : Sl) : ∃ s, oRet (st_ ws o a z mu) = .ok (.rt (if a = ws.length then .dct (encOd o) else .non)) s ∧ s.mu = mu := by
  have hl := len_of (ws := ws)
  unfold oRet st_
  by_cases c : a = ws.length
  · have c' : (a : Int) = (ws.length : Int) := by omega
    rw [if_pos c]
    simp -implicitDefEqProofs -dsimp [-x_len, hl, c']
  · have c' : ¬ (a : Int) = (ws.length : Int) := by omega
    rw [if_neg c]
    simp -implicitDefEqProofs -dsimp [-x_len, hl, c']
theorem e_options (ws : List (List Nat)) (mu : List Own) (ok : WsOk ws) : F_options_of ga [.lst (ws.map D.str)] mu = .ok (encOp (optsM ws)) mu := by
  have hm : m_options_of ga = sq oInit (sq (asgM (mret (D.int 0)) (gN 2)) (sq (oA ga) (sq (oB ga) (sq (oFor ga) oRet)))) := rfl
  have hb : begS 4 [.lst (ws.map D.str)] = [.dat (.lst (ws.map D.str)), .non, .non, .non] := rfl
  have h2 : asgM (mret (D.int 0)) (gN 2) ⟨[.dat (.lst (ws.map D.str)), .own (.dct (encOd ⟨0, [], false, false⟩)), .non, .non], mu⟩ = .ok .nx (st_ ws ⟨0, [], false, false⟩ 0 .non mu) := rfl
  unfold F_options_of
  rw [x_runB, hb, hm, x_sq, e_oInit]
  simp only [R.bind_ok]
  rw [x_sq, h2]
  simp only [R.bind_ok]
  have hA := e_oA (ga := ga) ws mu ok
  unfold optsM
  cases qa : optA ws with
  | none =>
    rw [qa] at hA
    simp only at hA
    rw [x_sq, hA]
    rfl
  | some q =>
    rw [qa] at hA
    simp only at hA
    rw [x_sq, hA]
    simp only [R.bind_ok, Option.bind_some]
    have hB := e_oB (ga := ga) ws mu ok q.1 q.2
    cases qb : optB ws q.2 with
    | none =>
      rw [qb] at hB
      simp only at hB
      rw [x_sq, hB]
      rfl
    | some p =>
      rw [qb] at hB
      simp only at hB
      rw [x_sq, hB]
      simp only [R.bind_ok, Option.bind_some]
      obtain ⟨z, hF⟩ := e_oFor (ga := ga) ws mu ok q.1 p.1 p.2
      rw [x_sq, hF]
      simp only [R.bind_ok]
      obtain ⟨s, hr, hmu⟩ := e_oRet ws mu ⟨q.1, p.1, (optC ws p.2 doubledC).1, (optC ws (optC ws p.2 doubledC).2 lineC).1⟩ (optC ws (optC ws p.2 doubledC).2 lineC).2 z
      rw [hr]
      simp only [hmu]
      congr 1
      split <;> rfl
end K02
end
section -- KZ_k02
set_option Elab.async false
set_option linter.all false
set_option maxRecDepth 100000
set_option maxHeartbeats 1000000
namespace K02
open PySem PySem.Spec L2 DL
variable {ga : Str → Addr}
@[simp] theorem x_kdIn (neg : Bool) (f : List Nat → Bool) (m : M D) (s : S) : kdIn neg f m s = (m s).bind fun d s => mo ((toS d).map fun z => .bl (if neg then !f z else f z)) s := rfl
@[simp] theorem x_kdM (f : List Nat → Option D) (m : M D) (s : S) : kdM f m s = (m s).bind fun d s => mo ((toS d).bind f) s := rfl
theorem remark_cs : cs "remark" = remarkC := by decide +kernel
theorem quote_cs : cs "quote" = quoteC := by decide +kernel
theorem sx_ne {x y : List Nat} : decide (sx x = sx y) = decide (x = y) := by
  by_cases h : x = y
  · subst h; simp
  · rw [decide_eq_false h, decide_eq_false fun z => h (sx_inj z)]
theorem has_let (w : List Nat) : has_LETTERS w = (decide (w = remarkC) || decide (w = quoteC)) := by
  have h1 : (("remark" : Str) = sx remarkC) := by rw [← remark_cs]; rfl
  have h2 : (("quote" : Str) = sx quoteC) := by rw [← quote_cs]; rfl
  show ((decide (("remark" : Str) = sx w)) || ((decide (("quote" : Str) = sx w)) || false)) = _
  rw [h1, h2, sx_ne, sx_ne, Bool.or_false]
  congr 1 <;> exact decide_eq_decide.mpr eq_comm
theorem get_let1 : get_LETTERS remarkC = some (.str [114]) := by
  have h1 : (("remark" : Str) = sx remarkC) := by rw [← remark_cs]; rfl
  unfold get_LETTERS tabGet kv_LETTERS
  rw [List.find?_cons, h1]
  simp
  rfl
theorem get_let2 : get_LETTERS quoteC = some (.str [113]) := by
  have h1 : (("remark" : Str) = sx remarkC) := by rw [← remark_cs]; rfl
  have h2 : (("quote" : Str) = sx quoteC) := by rw [← quote_cs]; rfl
  unfold get_LETTERS tabGet kv_LETTERS
  rw [List.find?_cons, h1, h2]
  simp only [sx_ne]
  rw [show decide (remarkC = quoteC) = false by decide]
  simp
  rfl
def toC : List Nat := cs "to"
structure Wd where
  w0 : List Nat
  w1 : List Nat
  w2 : List Nat
  w3 : List Nat
  r : List (List Nat)
def Wd.ws (w : Wd) : List (List Nat) := w.w0 :: w.w1 :: w.w2 :: w.w3 :: w.r
def Wd.cl (w : Wd) : List Nat := if w.w3 = lineC then [] else w.w3
def Wd.headB (w : Wd) : Bool := (decide (w.w0 = remarkC) || decide (w.w0 = quoteC)) && (isMarkB w.w1 && decide (w.w2 = toC))
def ruleM (w : Wd) : Option Rl := if w.headB = true then (match optsM w.r with
  | none => none
  | some o => if w.cl ≠ [] ∧ isMarkB w.cl = false then none
    else if w.cl = [] ∧ (0 < o.n ∨ o.d = true ∨ o.l = true) then none
    else if 0 < o.n ∧ (w.w0 ≠ remarkC ∨ w.cl = w.w1 ∨ o.d = true) then none
    else some ⟨[if w.w0 = remarkC then 114 else 113], w.w1, w.cl, o.n, o.e, o.d, o.l || decide (w.cl = [])⟩) else none
def rB (ga : Str → Addr) : M Fl := (ifM (orT (tstB (binD fLt (calM lenD (aCons (vr 1) aNil)) (mret (D.int 4)))) (orT (tstB (kdIn true has_LETTERS (binD ixD (vr 1) (mret (D.int 0))))) (orT (notT (tstD (callN 1 (F_is_mark ga) [] (aCons (binD ixD (vr 1) (mret (D.int 1))) aNil)))) (tstB (binD neD (binD ixD (vr 1) (mret (D.int 2))) (mret (D.str (cs "to"))))))))
 (retM (mret D.non))
 (mret Fl.nx))
def rC : M Fl := (asgM (ifD (tstB (binD eqD (binD ixD (vr 1) (mret (D.int 3))) (mret (D.str (cs "line"))))) (mret (D.str (cs ""))) (binD ixD (vr 1) (mret (D.int 3)))) (gN 2))
def rD (ga : Str → Addr) : M Fl := (asgM (callN 1 (F_options_of ga) [] (aCons (slM slcD (vr 1) (someP (mret (D.int 4))) noP) aNil)) (gN 3))
def rE (ga : Str → Addr) : M Fl := (ifM (orT (tstB (binD (isND false) (vr 3) (mret D.non))) (andT (tstB (binD neD (vr 2) (mret (D.str (cs ""))))) (notT (tstD (callN 1 (F_is_mark ga) [] (aCons (vr 2) aNil))))))
 (retM (mret D.non))
 (mret Fl.nx))
def rF : M Fl := (ifM (andT (tstB (binD eqD (vr 2) (mret (D.str (cs ""))))) (orT (tstB (binD fGt (binD dgetD (vr 3) (mret (D.str (cs "nested")))) (mret (D.int 0)))) (orT (tstD (binD dgetD (vr 3) (mret (D.str (cs "doubled"))))) (tstD (binD dgetD (vr 3) (mret (D.str (cs "line"))))))))
 (retM (mret D.non))
 (mret Fl.nx))
def rG : M Fl := (ifM (andT (tstB (binD fGt (binD dgetD (vr 3) (mret (D.str (cs "nested")))) (mret (D.int 0)))) (orT (tstB (binD neD (binD ixD (vr 1) (mret (D.int 0))) (mret (D.str (cs "remark"))))) (orT (tstB (binD eqD (vr 2) (binD ixD (vr 1) (mret (D.int 1))))) (tstD (binD dgetD (vr 3) (mret (D.str (cs "doubled"))))))))
 (retM (mret D.non))
 (mret Fl.nx))
def rH (ga : Str → Addr) : M Fl := (retM (makeM (ga "Rule") 4 (F_Rule___init__ ga) [] (aCons (kdM get_LETTERS (binD ixD (vr 1) (mret (D.int 0)))) (aCons (binD ixD (vr 1) (mret (D.int 1))) (aCons (vr 2) (aCons (vr 3) aNil))))))
section
variable {W : D} {L Z2 Z3 : Sl} {mu : List Own}
theorem rB_short {n : Int} (hl : ∀ s, lenD s [W] = some (.int n)) (hn : n < 4) : rB ga ⟨[L, .dat W, Z2, Z3], mu⟩ = .ok (.rt .non) ⟨[L, .dat W, Z2, Z3], mu⟩ := by
  unfold rB
  simp -implicitDefEqProofs -dsimp [-x_len, hl, hn]
theorem rB_long {w : Wd} {n : Int} (hl : ∀ s, lenD s [W] = some (.int n)) (hn : ¬ n < 4) (i0 : ∀ s, ixD s W (.int 0) = some (.str w.w0)) (i1 : ∀ s, ixD s W (.int 1) = some (.str w.w1)) (i2 : ∀ s, ixD s W (.int 2) = some (.str w.w2)) (h1 : w.w1.length ≤ 100000) :
    rB ga ⟨[L, .dat W, Z2, Z3], mu⟩ = .ok (if w.headB = true then .nx else .rt .non) ⟨[L, .dat W, Z2, Z3], mu⟩ := by
  have mk : F_is_mark ga [.str w.w1] mu = .ok (.bl (isMarkB w.w1)) mu := e_is_mark w.w1 mu (by omega)
  have hh := has_let w.w0
  have ht : decide (w.w2 = cs "to") = decide (w.w2 = toC) := rfl
  unfold rB Wd.headB
  cases a : (decide (w.w0 = remarkC) || decide (w.w0 = quoteC)) with
  | false =>
    rw [a] at hh
    simp -implicitDefEqProofs -dsimp [-x_len, hl, hn, i0, hh]
  | true =>
    rw [a] at hh
    cases b : isMarkB w.w1 with
    | false =>
      rw [b] at mk
      simp -implicitDefEqProofs -dsimp [-x_len, hl, hn, i0, i1, hh, mk]
    | true =>
      rw [b] at mk
      by_cases c : w.w2 = toC
      · have c' : w.w2 = cs "to" := c
        simp -implicitDefEqProofs -dsimp [-x_len, hl, hn, i0, i1, i2, hh, mk, c]
        rfl
      · have c' : ¬ w.w2 = cs "to" := c
        simp -implicitDefEqProofs -dsimp [-x_len, hl, hn, i0, i1, i2, hh, mk, c']
        exact c
theorem rC_ok {w : Wd} (i3 : ∀ s, ixD s W (.int 3) = some (.str w.w3)) : rC ⟨[L, .dat W, Z2, Z3], mu⟩ = .ok .nx ⟨[L, .dat W, .dat (.str w.cl), Z3], mu⟩ := by
  unfold rC Wd.cl
  by_cases c : w.w3 = lineC
  · rw [if_pos c]
    have c' : w.w3 = cs "line" := c
    simp -implicitDefEqProofs -dsimp [i3, c']
  · rw [if_neg c]
    have c' : ¬ w.w3 = cs "line" := c
    simp -implicitDefEqProofs -dsimp [i3, c']
theorem rD_ok {r : List (List Nat)} (ok : WsOk r) (sl : ∀ s, slcD s W (some 4) none = some (.lst (r.map D.str))) : rD ga ⟨[L, .dat W, Z2, Z3], mu⟩ = .ok .nx ⟨[L, .dat W, Z2, .dat (encOp (optsM r))], mu⟩ := by
  have e := e_options (ga := ga) r mu ok
  have hf : ∀ s, fz (encOp (optsM r)) s = .ok (encOp (optsM r)) s := fun s => by cases optsM r <;> rfl
  unfold rD
  simp -implicitDefEqProofs -dsimp [sl, e, hf]
theorem isN_dct {s : S} {n : Bool} (x : List (Key × D)) : isND n s (.dct x) .non = some (.bl (if n then true else false)) := rfl
theorem rE_none {cl : List Nat} : rE ga ⟨[L, .dat W, .dat (.str cl), .dat .non], mu⟩ = .ok (.rt .non) ⟨[L, .dat W, .dat (.str cl), .dat .non], mu⟩ := by
  unfold rE
  simp -implicitDefEqProofs -dsimp
theorem rE_some {cl : List Nat} {o : Op} (h : cl.length ≤ 100000) : rE ga ⟨[L, .dat W, .dat (.str cl), .dat (.dct (encOd o))], mu⟩ = .ok (if cl ≠ [] ∧ isMarkB cl = false then .rt .non else .nx) ⟨[L, .dat W, .dat (.str cl), .dat (.dct (encOd o))], mu⟩ := by
  have mk : F_is_mark ga [.str cl] mu = .ok (.bl (isMarkB cl)) mu := e_is_mark cl mu (by omega)
  unfold rE
  by_cases c : cl = []
  · simp -implicitDefEqProofs -dsimp [isN_dct, c]
  · cases b : isMarkB cl with
    | false =>
      rw [b] at mk
      simp -implicitDefEqProofs -dsimp [isN_dct, c, mk]
    | true =>
      rw [b] at mk
      simp -implicitDefEqProofs -dsimp [isN_dct, c, mk]
theorem rF_ok {cl : List Nat} {o : Op} : rF ⟨[L, .dat W, .dat (.str cl), .dat (.dct (encOd o))], mu⟩ = .ok (if cl = [] ∧ (0 < o.n ∨ o.d = true ∨ o.l = true) then .rt .non else .nx) ⟨[L, .dat W, .dat (.str cl), .dat (.dct (encOd o))], mu⟩ := by
  unfold rF
  by_cases c : cl = []
  · by_cases c1 : 0 < o.n
    · simp -implicitDefEqProofs -dsimp [og_n, og_d, og_l, c, c1]
    · cases c2 : o.d <;> cases c3 : o.l <;> simp -implicitDefEqProofs -dsimp [og_n, og_d, og_l, c, c1, c2, c3]
  · simp -implicitDefEqProofs -dsimp [og_n, og_d, og_l, c]
theorem rG_ok {w : Wd} {cl : List Nat} {o : Op} (i0 : ∀ s, ixD s W (.int 0) = some (.str w.w0)) (i1 : ∀ s, ixD s W (.int 1) = some (.str w.w1)) : rG ⟨[L, .dat W, .dat (.str cl), .dat (.dct (encOd o))], mu⟩ = .ok (if 0 < o.n ∧ (w.w0 ≠ remarkC ∨ cl = w.w1 ∨ o.d = true) then .rt .non else .nx) ⟨[L, .dat W, .dat (.str cl), .dat (.dct (encOd o))], mu⟩ := by
  have hr := remark_cs
  unfold rG
  by_cases c1 : 0 < o.n
  · by_cases c2 : w.w0 = remarkC
    · by_cases c3 : cl = w.w1
      · simp -implicitDefEqProofs -dsimp [og_n, og_d, i0, i1, hr, c1, c2, c3]
      · cases c4 : o.d <;> simp -implicitDefEqProofs -dsimp [og_n, og_d, i0, i1, hr, c1, c2, c3, c4]
    · simp -implicitDefEqProofs -dsimp [og_n, og_d, i0, i1, hr, c1, c2]
  · simp -implicitDefEqProofs -dsimp [og_n, og_d, i0, i1, hr, c1]
end
theorem e_rinit (let_ op cl : List Nat) (o : Op) (mu : List Own) : F_Rule___init__ ga [.str let_, .str op, .str cl, .dct (encOd o)] mu = .ok [("letter", .str let_), ("opening", .str op), ("closing", .str cl), ("most", .int o.n), ("escape", .str o.e), ("is_doubled", .bl o.d), ("ends_at_lines", .bl (o.l || decide (cl = [])))] mu := by
  have p1 : ∀ a : D, putD "letter" a [] = ([("letter", a)] : List (Str × D)) := fun _ => rfl
  have p2 : ∀ a b : D, putD "opening" b [("letter", a)] = ([("letter", a), ("opening", b)] : List (Str × D)) := fun _ _ => rfl
  have p3 : ∀ a b c : D, putD "closing" c [("letter", a), ("opening", b)] = ([("letter", a), ("opening", b), ("closing", c)] : List (Str × D)) := fun _ _ _ => rfl
  have p4 : ∀ a b c d : D, putD "most" d [("letter", a), ("opening", b), ("closing", c)] = ([("letter", a), ("opening", b), ("closing", c), ("most", d)] : List (Str × D)) := fun _ _ _ _ => rfl
  have p5 : ∀ a b c d e : D, putD "escape" e [("letter", a), ("opening", b), ("closing", c), ("most", d)] = ([("letter", a), ("opening", b), ("closing", c), ("most", d), ("escape", e)] : List (Str × D)) := fun _ _ _ _ _ => rfl
  have p6 : ∀ a b c d e f : D, putD "is_doubled" f [("letter", a), ("opening", b), ("closing", c), ("most", d), ("escape", e)] = ([("letter", a), ("opening", b), ("closing", c), ("most", d), ("escape", e), ("is_doubled", f)] : List (Str × D)) := fun _ _ _ _ _ _ => rfl
  have p7 : ∀ a b c d e f g : D, putD "ends_at_lines" g [("letter", a), ("opening", b), ("closing", c), ("most", d), ("escape", e), ("is_doubled", f)] = ([("letter", a), ("opening", b), ("closing", c), ("most", d), ("escape", e), ("is_doubled", f), ("ends_at_lines", g)] : List (Str × D)) := fun _ _ _ _ _ _ _ => rfl
  unfold F_Rule___init__ runI m_Rule___init__
  cases c : o.l with
  | true => simp -implicitDefEqProofs -dsimp [og_n, og_d, og_e, og_l, c, finI, p1, p2, p3, p4, p5, p6, p7]
  | false => simp -implicitDefEqProofs -dsimp [og_n, og_d, og_e, og_l, c, finI, p1, p2, p3, p4, p5, p6, p7]
theorem rH_ok {W : D} {L : Sl} {mu : List Own} {w : Wd} {o : Op} (i0 : ∀ s, ixD s W (.int 0) = some (.str w.w0)) (i1 : ∀ s, ixD s W (.int 1) = some (.str w.w1)) (h0 : w.w0 = remarkC ∨ w.w0 = quoteC) : rH ga ⟨[L, .dat W, .dat (.str w.cl), .dat (.dct (encOd o))], mu⟩ = .ok (.rt (encR ga ⟨[if w.w0 = remarkC then 114 else 113], w.w1, w.cl, o.n, o.e, o.d, o.l || decide (w.cl = [])⟩)) ⟨[L, .dat W, .dat (.str w.cl), .dat (.dct (encOd o))], mu⟩ := by
  have hg : get_LETTERS w.w0 = some (.str [if w.w0 = remarkC then 114 else 113]) := by
    by_cases c : w.w0 = remarkC
    · rw [if_pos c, c]; exact get_let1
    · rcases h0 with h | h
      · exact absurd h c
      · rw [if_neg c, h]; exact get_let2
  have e := e_rinit (ga := ga) [if w.w0 = remarkC then 114 else 113] w.w1 w.cl o mu
  unfold rH encR
  simp -implicitDefEqProofs -dsimp [i0, i1, hg, e]
def encRo (ga : Str → Addr) : Option Rl → D
  | none => .non
  | some r => encR ga r
/-- a line and its words -/
def lineM (x : List Nat) : Option Rl := match TL.spl [32] 0 [] x with
  | a :: b :: c :: d :: r => ruleM ⟨a, b, c, d, r⟩
  | _ => none
theorem ix_at {ws : List (List Nat)} {w : List Nat} (i : Nat) (h : ws[i]? = some w) : ∀ s, ixD s (.lst (ws.map D.str)) (.int (i : Int)) = some (.str w) := fun s => ixD_lst h
theorem e_rule_of (x : List Nat) (mu : List Own) (hx : x.length ≤ 100000) (ok : WsOk (TL.spl [32] 0 [] x)) : F_rule_of ga [.str x] mu = .ok (encRo ga (lineM x)) mu := by
  have hz : (1000000 : Nat) ≤ sizeLine := by decide
  have sp : ∀ s, splitD s x (.str (cs " ")) = some (.lst ((TL.spl [32] 0 [] x).map D.str)) := fun s => by
    have : cs " " = [32] := by decide +kernel
    rw [this]
    exact split_any (by simp) (by decide) (by omega)
  have hm : m_rule_of ga = sq (asgM (sm1 splitD (vr 0) (mret (D.str (cs " ")))) (gN 1)) (sq (rB ga) (sq rC (sq (rD ga) (sq (rE ga) (sq rF (sq rG (rH ga))))))) := rfl
  have hb : begS 4 [.str x] = [.dat (.str x), .non, .non, .non] := rfl
  obtain ⟨ws, hws⟩ : ∃ ws, ws = TL.spl [32] 0 [] x := ⟨_, rfl⟩
  have h1 : asgM (sm1 splitD (vr 0) (mret (D.str (cs " ")))) (gN 1) ⟨[.dat (.str x), .non, .non, .non], mu⟩ = .ok .nx ⟨[.dat (.str x), .dat (.lst (ws.map D.str)), .non, .non], mu⟩ := by
    rw [hws]
    simp -implicitDefEqProofs -dsimp [sp]
  unfold F_rule_of
  rw [x_runB, hb, hm, x_sq, h1]
  simp only [R.bind_ok]
  have len := len_of (ws := ws)
  unfold lineM
  rw [← hws] at ok ⊢
  have short : ws.length < 4 → (match rB ga ⟨[.dat (.str x), .dat (.lst (ws.map D.str)), .non, .non], mu⟩ with | .ok (.rt d) s => (RF.ok d s.mu : RF) | _ => .bad) = .ok .non mu ∧ rB ga ⟨[.dat (.str x), .dat (.lst (ws.map D.str)), .non, .non], mu⟩ = .ok (.rt .non) ⟨[.dat (.str x), .dat (.lst (ws.map D.str)), .non, .non], mu⟩ := fun h => by
    have := rB_short (ga := ga) (W := .lst (ws.map D.str)) (L := .dat (.str x)) (Z2 := .non) (Z3 := .non) (mu := mu) len (by omega)
    exact ⟨by rw [this], this⟩
  match hw : ws with
  | [] => rw [x_sq, (short (by simp)).2]; rfl
  | [_] => rw [x_sq, (short (by simp)).2]; rfl
  | [_, _] => rw [x_sq, (short (by simp)).2]; rfl
  | [_, _, _] => rw [x_sq, (short (by simp)).2]; rfl
  | a :: b :: c :: d :: r =>
    simp only
    clear short
    have okr : WsOk r := ⟨by have := ok.len; simp at this; omega, fun w hw => ok.all w (by simp [hw])⟩
    have l1 : ∀ y ∈ (a :: b :: c :: d :: r), y.length ≤ 100000 := fun y hy => (ok.all y hy).1
    have i0 := ix_at (ws := a :: b :: c :: d :: r) 0 rfl
    have i1 := ix_at (ws := a :: b :: c :: d :: r) 1 rfl
    have i2 := ix_at (ws := a :: b :: c :: d :: r) 2 rfl
    have i3 := ix_at (ws := a :: b :: c :: d :: r) 3 rfl
    have sl : ∀ s, slcD s (.lst ((a :: b :: c :: d :: r).map D.str)) (some 4) none = some (.lst (r.map D.str)) := fun s => by
      rw [slc_lst]
      exact congrArg (fun z => some (D.lst z)) (cut_fromD (xs := (a :: b :: c :: d :: r).map D.str) (a := 4))
    obtain ⟨w, hw⟩ : ∃ w : Wd, w = ⟨a, b, c, d, r⟩ := ⟨_, rfl⟩
    rw [← hw]
    have hB := rB_long (ga := ga) (W := .lst ((a :: b :: c :: d :: r).map D.str)) (L := .dat (.str x)) (Z2 := .non) (Z3 := .non) (mu := mu) (w := w) len (by simp; omega) (by rw [hw]; exact i0) (by rw [hw]; exact i1) (by rw [hw]; exact i2) (by rw [hw]; exact l1 b (by simp))
    rw [x_sq, hB]
    simp only [R.bind_ok]
    unfold ruleM
    cases hh : w.headB with
    | false => simp only [Bool.false_eq_true, if_false]; rfl
    | true =>
      simp only [if_true]
      rw [x_sq, rC_ok (w := w) (by rw [hw]; exact i3)]
      simp only [R.bind_ok]
      rw [x_sq, rD_ok (r := w.r) (by rw [hw]; exact okr) (by rw [hw]; exact sl)]
      simp only [R.bind_ok]
      have hcl : w.cl.length ≤ 100000 := by
        unfold Wd.cl
        split
        · simp
        · rw [hw]; exact l1 d (by simp)
      cases ho : optsM w.r with
      | none =>
        rw [x_sq, encOp, rE_none]
        rfl
      | some o =>
        simp only [encOp]
        rw [x_sq, rE_some hcl]
        simp only [R.bind_ok]
        by_cases c1 : w.cl ≠ [] ∧ isMarkB w.cl = false
        · rw [if_pos c1, if_pos c1]; rfl
        · rw [if_neg c1, if_neg c1]
          simp only
          rw [x_sq, rF_ok]
          simp only [R.bind_ok]
          by_cases c2 : w.cl = [] ∧ (0 < o.n ∨ o.d = true ∨ o.l = true)
          · rw [if_pos c2, if_pos c2]; rfl
          · rw [if_neg c2, if_neg c2]
            simp only
            rw [x_sq, rG_ok (w := w) (by rw [hw]; exact i0) (by rw [hw]; exact i1)]
            simp only [R.bind_ok]
            by_cases c3 : 0 < o.n ∧ (w.w0 ≠ remarkC ∨ w.cl = w.w1 ∨ o.d = true)
            · rw [if_pos c3, if_pos c3]; rfl
            · rw [if_neg c3, if_neg c3]
              simp only
              rw [rH_ok (w := w) (by rw [hw]; exact i0) (by rw [hw]; exact i1) (by
                unfold Wd.headB at hh
                simp at hh
                exact hh.1)]
              rfl
end K02
end
section -- KT_k02
set_option Elab.async false
set_option linter.all false
set_option maxRecDepth 100000
set_option maxHeartbeats 1000000
namespace K02
open PySem PySem.Spec L2 DL
variable {ga : Str → Addr}

/-- the pen: cells, turn, left -/
structure Pen where
  cells : List Int
  turn : Nat
  left : Nat
def encPen (p : Pen) : Own := .dct [(.inr "cells", .lst (p.cells.map D.int)), (.inr "turn", .int (p.turn : Int)), (.inr "left", .int (p.left : Int))]
section
variable {s : S} {p : Pen}
theorem pen_get_left (h : s.mu = [encPen p]) : dgetD s (.shr 0) (.str (cs "left")) = some (.int (p.left : Int)) := by
  unfold dgetD rdK dd
  rw [h]
  rfl
theorem pen_get_turn (h : s.mu = [encPen p]) : dgetD s (.shr 0) (.str (cs "turn")) = some (.int (p.turn : Int)) := by
  unfold dgetD rdK dd
  rw [h]
  rfl
theorem pen_get_cells (h : s.mu = [encPen p]) : dgetD s (.shr 0) (.str (cs "cells")) = some (.lst (p.cells.map D.int)) := by
  unfold dgetD rdK dd
  rw [h]
  rfl
end
theorem pen_put_left (sl : List Sl) (p : Pen) (n : Nat) : ixE (.shr 0) (.str (cs "left")) (.int (n : Int)) ⟨sl, [encPen p]⟩ = .ok .nx ⟨sl, [encPen { p with left := n }]⟩ := by
  show (if ([(Sum.inr "cells", D.lst (p.cells.map D.int)), (Sum.inr "turn", D.int (p.turn : Int)), (Sum.inr "left", D.int (p.left : Int))] : List (Key × D)).length < sizeLine then R.ok Fl.nx (putO ⟨sl, [encPen p]⟩ (.shr 0) (.dct (putK' [(.inr "cells", .lst (p.cells.map D.int)), (.inr "turn", .int (p.turn : Int)), (.inr "left", .int (p.left : Int))] (.inr "left") (.int (n : Int))))) else R.bad) = _
  rw [if_pos (by simp)]
  rfl
theorem pen_put_turn (sl : List Sl) (p : Pen) (n : Nat) : ixE (.shr 0) (.str (cs "turn")) (.int (n : Int)) ⟨sl, [encPen p]⟩ = .ok .nx ⟨sl, [encPen { p with turn := n }]⟩ := by
  show (if ([(Sum.inr "cells", D.lst (p.cells.map D.int)), (Sum.inr "turn", D.int (p.turn : Int)), (Sum.inr "left", D.int (p.left : Int))] : List (Key × D)).length < sizeLine then R.ok Fl.nx (putO ⟨sl, [encPen p]⟩ (.shr 0) (.dct (putK' [(.inr "cells", .lst (p.cells.map D.int)), (.inr "turn", .int (p.turn : Int)), (.inr "left", .int (p.left : Int))] (.inr "turn") (.int (n : Int))))) else R.bad) = _
  rw [if_pos (by simp)]
  rfl

def dtail (ga : Str → Addr) : M Fl := (sq (ifM (andT (tstB (binD fLt (vr 3) (calM lenD (aCons (binD dgetD (vr 0) (mret (D.str (cs "cells")))) aNil)))) (tstB (binD fGe (calM absD (aCons (vr 4) aNil)) (binD fPowI (mret (D.int 10)) (mret (D.int 18))))))
 (sq (ixS (vr 0) (mret (D.str (cs "left"))) (binD fDivI (binD fSubI (calM absD (aCons (vr 4) aNil)) (binD fPowI (mret (D.int 10)) (mret (D.int 18)))) (vr 1)))
 (retM (binD fModI (calM intS (aCons (binD fSubI (calM absD (aCons (vr 4) aNil)) (binD fPowI (mret (D.int 10)) (mret (D.int 18)))) aNil)) (vr 1))))
 (mret Fl.nx))
 (sq (asgM (binD mulA (binD fModI (calM intS (aCons (vr 4) aNil)) (mret (D.int 4294967087))) (mret (D.int 50021))) (gN 5))
 (sq (asgM (binD fModI (calM intS (aCons (binD addA (binD addA (vr 5) (binD mulA (vr 3) (binD addA (binD mulA (vr 3) (mret (D.int 28723))) (mret (D.int 10427))))) (mret (D.int 37))) aNil)) (mret (D.int 4294967029))) (gN 5))
 (sq (asgM (binD fModI (calM intS (aCons (binD mulA (vr 5) (binD addA (vr 5) (mret (D.int 74597)))) aNil)) (mret (D.int 4294966997))) (gN 5))
 (sq (asgM (binD fModI (calM intS (aCons (binD addA (binD addA (binD mulA (vr 5) (vr 5)) (binD mulA (mret (D.int 31259)) (vr 5))) (binD mulA (mret (D.int 23)) (vr 3))) aNil)) (mret (D.int 4294966981))) (gN 5))
 (retM (binD fModI (calM intS (aCons (binD fDivI (binD fModI (calM intS (aCons (binD mulA (vr 5) (binD addA (vr 5) (mret (D.int 57241)))) aNil)) (mret (D.int 4294966943))) (mret (D.int 64))) aNil)) (vr 1))))))))
theorem mulC_mod (k : Int) (hk : 0 < k) (hk2 : k ≤ 2 ^ 63) (a b : Int) : mulC (a % k) b = true := by
  have h1 := Int.emod_nonneg a (show k ≠ 0 by omega)
  have h2 := Int.emod_lt_of_pos a hk
  unfold mulC
  simp
  left
  omega
theorem mulC_l (k : Int) (h : -(2 ^ 64) < k) (h2 : k < 2 ^ 64) (b : Int) : mulC k b = true := by
  unfold mulC
  simp
  left
  omega
theorem mulC_r (k : Int) (h : -(2 ^ 64) < k) (h2 : k < 2 ^ 64) (b : Int) : mulC b k = true := by
  unfold mulC
  simp
  right
  omega
theorem e_dtail (cells : List Int) (turn : Nat) (q : Pen) (cell : Int) (span : Nat) (h0 : 0 < span) (h1 : span < 1073741824) (ht : turn < 1000000000) (hq : q.cells = cells) (hl : q.left = 0) :
    ∃ (n : Nat) (q' : Pen) (s' : S), dtail ga ⟨[.dat (.shr 0), .dat (.int (span : Int)), .non, .dat (.int (turn : Int)), .dat (.int cell), .non], [encPen q]⟩ = .ok (.rt (.int (n : Int))) s' ∧ s'.mu = [encPen q'] ∧ n < span ∧ q'.cells = q.cells ∧ q'.turn = q.turn := by
  have md : ∀ a : Int, modC a (span : Int) = true := fun a => by unfold modC; simpa using h0
  have dv : ∀ a : Int, divC a (span : Int) = true := fun a => by unfold divC; simp; omega
  have g4 : ∀ sl, dgetD ⟨sl, [encPen q]⟩ (.shr 0) (.str (cs "cells")) = some (.lst (cells.map D.int)) := fun sl => by rw [← hq]; exact pen_get_cells rfl
  have mm : ∀ a : Int, mulC (turn : Int) a = true := fun a => by unfold mulC; simp; omega
  have sp : (0 : Int) < (span : Int) := by omega
  obtain ⟨A, hA⟩ : ∃ A : Int, A = if cell < 0 then -cell else cell := ⟨_, rfl⟩
  by_cases t1 : turn < cells.length ∧ 1000000000000000000 ≤ A
  · obtain ⟨t1, t2⟩ := t1
    have b0 : 0 ≤ (A - 1000000000000000000) / (span : Int) := Int.ediv_nonneg (by omega) (by omega)
    have b1 : 0 ≤ (A - 1000000000000000000) % (span : Int) := Int.emod_nonneg _ (by omega)
    have b2 : (A - 1000000000000000000) % (span : Int) < (span : Int) := Int.emod_lt_of_pos _ sp
    obtain ⟨l, hl'⟩ : ∃ l : Nat, (A - 1000000000000000000) / (span : Int) = (l : Int) := ⟨((A - 1000000000000000000) / (span : Int)).toNat, by omega⟩
    obtain ⟨n, hn⟩ : ∃ n : Nat, (A - 1000000000000000000) % (span : Int) = (n : Int) := ⟨((A - 1000000000000000000) % (span : Int)).toNat, by omega⟩
    refine ⟨n, { q with left := l }, ⟨[.dat (.shr 0), .dat (.int (span : Int)), .non, .dat (.int (turn : Int)), .dat (.int cell), .non], [encPen { q with left := l }]⟩, ?_, rfl, by omega, rfl, rfl⟩
    have e3 : ∀ sl, ixE (.shr 0) (.str (cs "left")) (.int (l : Int)) ⟨sl, [encPen q]⟩ = .ok .nx ⟨sl, [encPen { q with left := l }]⟩ := fun sl => pen_put_left sl q l
    unfold dtail
    simp -implicitDefEqProofs -dsimp [g4, md, dv, t1, powC, absD, ← hA, t2, hl', hn, e3]
  · have u1 : ∀ a, mulC a 50021 = true := mulC_r 50021 (by decide) (by decide)
    have u3 : ∀ a, mulC 31259 a = true := mulC_l 31259 (by decide) (by decide)
    have u4 : ∀ a, mulC 23 a = true := mulC_l 23 (by decide) (by decide)
    have u5 : ∀ a b, mulC (a % 4294967029) b = true := mulC_mod _ (by decide) (by decide)
    have u6 : ∀ a b, mulC (a % 4294966997) b = true := mulC_mod _ (by decide) (by decide)
    have u7 : ∀ a b, mulC (a % 4294966981) b = true := mulC_mod _ (by decide) (by decide)
    have w1 : ∀ a, modC a 4294967087 = true := fun _ => rfl
    have w2 : ∀ a, modC a 4294967029 = true := fun _ => rfl
    have w3 : ∀ a, modC a 4294966997 = true := fun _ => rfl
    have w4 : ∀ a, modC a 4294966981 = true := fun _ => rfl
    have w5 : ∀ a, modC a 4294966943 = true := fun _ => rfl
    have w6 : ∀ a, divC a 64 = true := fun _ => rfl
    have fin : ∀ X : Int, ∃ n : Nat, X % (span : Int) = (n : Int) ∧ n < span := fun X => by
      have b1 := Int.emod_nonneg X (show (span : Int) ≠ 0 by omega)
      have b2 := Int.emod_lt_of_pos X sp
      exact ⟨(X % (span : Int)).toNat, by omega, by omega⟩
    by_cases t2 : turn < cells.length
    · have t3 : ¬ (1000000000000000000 ≤ A) := fun z => t1 ⟨t2, z⟩
      unfold dtail
      simp -implicitDefEqProofs -dsimp [g4, md, dv, t2, powC, absD, ← hA, t3, mm, u1, u3, u4, u5, u6, u7, w1, w2, w3, w4, w5, w6]
      exact ⟨_, q, _, ⟨(fin _).choose_spec.1, rfl⟩, rfl, (fin _).choose_spec.2, rfl, rfl⟩
    · unfold dtail
      simp -implicitDefEqProofs -dsimp [g4, md, dv, t2, powC, absD, mm, u1, u3, u4, u5, u6, u7, w1, w2, w3, w4, w5, w6]
      exact ⟨_, q, _, ⟨(fin _).choose_spec.1, rfl⟩, rfl, (fin _).choose_spec.2, rfl, rfl⟩
/-- a draw: some number below span; the pen has its cells, one turn more at most -/
theorem e_draw (p : Pen) (span : Nat) (h0 : 0 < span) (h1 : span < 1073741824) (ht : p.turn < 1000000000) :
    ∃ (n : Nat) (q : Pen), F__law_draw ga [.shr 0, .int (span : Int)] [encPen p] = .ok (.int (n : Int)) [encPen q] ∧ n < span ∧ q.cells = p.cells ∧ q.turn ≤ p.turn + 1 := by
  have md : ∀ a : Int, modC a (span : Int) = true := fun a => by unfold modC; simpa using h0
  have dv : ∀ a : Int, divC a (span : Int) = true := fun a => by unfold divC; simp; omega
  have g1 : ∀ sl, dgetD ⟨sl, [encPen p]⟩ (.shr 0) (.str (cs "left")) = some (.int (p.left : Int)) := fun sl => pen_get_left rfl
  have g2 : ∀ sl, dgetD ⟨sl, [encPen p]⟩ (.shr 0) (.str (cs "turn")) = some (.int (p.turn : Int)) := fun sl => pen_get_turn rfl
  by_cases c : 0 < p.left
  · have e1 : (p.left : Int) / (span : Int) = ((p.left / span : Nat) : Int) := by simp
    have e3 : ∀ sl, ixE (.shr 0) (.str (cs "left")) (.int ((p.left : Int) / (span : Int))) ⟨sl, [encPen p]⟩ = .ok .nx ⟨sl, [encPen { p with left := p.left / span }]⟩ := fun sl => by
      rw [e1]; exact pen_put_left sl p _
    refine ⟨p.left % span, { p with left := p.left / span }, ?_, Nat.mod_lt _ h0, rfl, by simp⟩
    unfold F__law_draw
    rw [x_runB]
    unfold m__law_draw
    simp -implicitDefEqProofs -dsimp [g1, md, dv, c, e3]
  · have c0 : p.left = 0 := by omega
    obtain ⟨q, hq⟩ : ∃ q : Pen, q = { p with turn := p.turn + 1 } := ⟨_, rfl⟩
    have qc : q.cells = p.cells := by rw [hq]
    have ql : q.left = 0 := by rw [hq]; exact c0
    have qt : q.turn = p.turn + 1 := by rw [hq]
    have g3 : ∀ sl, dgetD ⟨sl, [encPen q]⟩ (.shr 0) (.str (cs "cells")) = some (.lst (p.cells.map D.int)) := fun sl => by rw [← qc]; exact pen_get_cells rfl
    have e4 : ∀ sl, ixE (.shr 0) (.str (cs "turn")) (.int ((p.turn : Int) + 1)) ⟨sl, [encPen p]⟩ = .ok .nx ⟨sl, [encPen q]⟩ := fun sl => by rw [hq]; exact pen_put_turn sl p (p.turn + 1)
    have n0 : ∀ s, neD s (.lst (p.cells.map D.int)) (.lst []) = some (.bl (!(p.cells.map D.int).isEmpty)) := fun s => ne_nil (okPys_map fun _ _ => rfl)
    have mm : ∀ a : Int, mulC a (p.turn : Int) = true := fun a => by unfold mulC; simp; omega
    have hpre : ∃ cell : Int, ∀ T : M Fl, (match T ⟨[.dat (.shr 0), .dat (.int (span : Int)), .non, .dat (.int (p.turn : Int)), .dat (.int cell), .non], [encPen q]⟩ with | .ok (.rt d) s => RF.ok d s.mu | .ok .nx s => .ok .non s.mu | .exc x s => .exc x s.mu | _ => .bad) = (match (sq (ifM (tstB (binD fGt (binD dgetD (vr 0) (mret (D.str (cs "left")))) (mret (D.int 0))))
 (sq (asgM (binD fModI (calM intS (aCons (binD dgetD (vr 0) (mret (D.str (cs "left")))) aNil)) (vr 1)) (gN 2))
 (sq (ixS (vr 0) (mret (D.str (cs "left"))) (binD fDivI (binD dgetD (vr 0) (mret (D.str (cs "left")))) (vr 1)))
 (retM (vr 2))))
 (mret Fl.nx))
 (sq (asgM (binD dgetD (vr 0) (mret (D.str (cs "turn")))) (gN 3))
 (sq (ixS (vr 0) (mret (D.str (cs "turn"))) (binD addA (vr 3) (mret (D.int 1))))
 (sq (asgM (binD addA (binD mulA (mret (D.int 53)) (vr 3)) (mret (D.int 17))) (gN 4))
 (sq (ifM (tstB (binD neD (binD dgetD (vr 0) (mret (D.str (cs "cells")))) (frz (lstM aNil))))
 (asgM (binD ixD (binD dgetD (vr 0) (mret (D.str (cs "cells")))) (binD fModI (calM intS (aCons (vr 3) aNil)) (calM lenD (aCons (binD dgetD (vr 0) (mret (D.str (cs "cells")))) aNil)))) (gN 4))
 (mret Fl.nx)) T))))) ⟨[.dat (.shr 0), .dat (.int (span : Int)), .non, .non, .non, .non], [encPen p]⟩ with | .ok (.rt d) s => RF.ok d s.mu | .ok .nx s => .ok .non s.mu | .exc x s => .exc x s.mu | _ => .bad) := by
      by_cases k : p.cells = []
      · refine ⟨53 * (p.turn : Int) + 17, fun T => ?_⟩
        have n1 : ∀ s, neD s (.lst (p.cells.map D.int)) (.lst []) = some (.bl false) := fun s => by rw [n0, k]; rfl
        simp -implicitDefEqProofs -dsimp [g1, g2, g3, c, e4, n1, mm]
      · have hp : 0 < p.cells.length := List.length_pos_iff.mpr k
        have hlt : p.turn % p.cells.length < p.cells.length := Nat.mod_lt _ hp
        have n1 : ∀ s, neD s (.lst (p.cells.map D.int)) (.lst []) = some (.bl true) := fun s => by
          rw [n0]
          cases hc : p.cells with
          | nil => exact absurd hc k
          | cons a b => rfl
        have ix : ∀ s, ixD s (.lst (p.cells.map D.int)) (.int ((p.turn : Int) % (p.cells.length : Int))) = some (.int p.cells[p.turn % p.cells.length]) := fun s => by
          have e : (p.turn : Int) % (p.cells.length : Int) = ((p.turn % p.cells.length : Nat) : Int) := by simp
          rw [e]
          exact ixD_lst (enc := D.int) (List.getElem?_eq_getElem hlt)
        have mc : ∀ a : Int, modC a (p.cells.length : Int) = true := fun a => by unfold modC; simpa using hp
        refine ⟨p.cells[p.turn % p.cells.length], fun T => ?_⟩
        simp -implicitDefEqProofs -dsimp [g1, g2, g3, c, e4, n1, mm, ix, mc]
    obtain ⟨cell, hc⟩ := hpre
    obtain ⟨n, q', s', e1, e2, e3, e4', e5⟩ := e_dtail (ga := ga) p.cells p.turn q cell span h0 h1 ht qc ql
    refine ⟨n, q', ?_, e3, by rw [e4', qc], by omega⟩
    have := hc (dtail ga)
    rw [e1] at this
    simp only [e2] at this
    unfold F__law_draw
    rw [x_runB]
    exact this.symm
end K02
end
section -- KU_k02
set_option Elab.async false
set_option linter.all false
set_option maxRecDepth 100000
set_option maxHeartbeats 1000000
namespace K02
open PySem PySem.Spec L2 DL
variable {ga : Str → Addr}

/-- one of the options -/
theorem e_pick {α : Type} {enc : α → D} (xs : List α) (p : Pen) (h0 : 0 < xs.length) (h1 : xs.length < 1000000) (ht : p.turn < 1000000000) (hf : ∀ (x : α) (s : S), fz (enc x) s = .ok (enc x) s) :
    ∃ (x : α) (q : Pen), F__law_pick ga [.shr 0, .lst (xs.map enc)] [encPen p] = .ok (enc x) [encPen q] ∧ x ∈ xs ∧ q.cells = p.cells ∧ q.turn ≤ p.turn + 1 := by
  obtain ⟨n, q, e, e1, e2, e3⟩ := e_draw (ga := ga) p xs.length h0 (by omega) ht
  have ix : ∀ s, ixD s (.lst (xs.map enc)) (.int (n : Int)) = some (enc xs[n]) := fun s => ixD_lst (List.getElem?_eq_getElem e1)
  refine ⟨xs[n], q, ?_, List.getElem_mem e1, e2, e3⟩
  unfold F__law_pick
  rw [x_runB]
  unfold m__law_pick
  simp -implicitDefEqProofs -dsimp [e, ix, hf]
/-- a comprehension that draws -/
theorem lc_pen {β : Type} {enc : β → D} {sl : List Sl} {f : D → S → Option S} {e : M D} (P : β → Prop) (c B : Nat) : ∀ (ds acc : List D) (p : Pen), p.turn + c * ds.length ≤ B →
    (∀ d ∈ ds, ∀ p : Pen, p.turn ≤ B → ∃ (s1 s3 : S) (y : β) (q : Pen), f d ⟨sl, [encPen p]⟩ = some s1 ∧ mb e fz s1 = .ok (enc y) s3 ∧ s3.mu = [encPen q] ∧ P y ∧ q.turn ≤ p.turn + c) → acc.length + ds.length ≤ sizeLine →
    ∃ (ys : List β) (q : Pen), lcLoop sl f yesM e ds acc [encPen p] = .ok (acc ++ ys.map enc) ⟨sl, [encPen q]⟩ ∧ ys.length = ds.length ∧ (∀ y ∈ ys, P y) ∧ q.turn ≤ p.turn + c * ds.length := by
  intro ds
  induction ds with
  | nil => intro acc p _ _ _; exact ⟨[], p, by simp [lcLoop], rfl, by simp, by simp⟩
  | cons d ds ih =>
    intro acc p hB h hl
    have hB' : p.turn + (c * ds.length + c) ≤ B := by simpa [Nat.mul_succ] using hB
    have hl' : acc.length + (ds.length + 1) ≤ sizeLine := by simpa using hl
    obtain ⟨s1, s3, y, q, h1, h2, h3, h4, h5⟩ := h d (by simp) p (by omega)
    obtain ⟨ys, q2, e1, e2, e3, e4⟩ := ih (acc ++ [enc y]) q (by omega) (fun x hx => h x (by simp [hx])) (by simp; omega)
    refine ⟨y :: ys, q2, ?_, by simp [e2], ?_, ?_⟩
    · unfold lcLoop
      rw [h1]
      simp only
      simp only [x_yesM]
      rw [h2]
      simp only
      rw [if_pos (by omega), h3, e1]
      simp
    · intro z hz
      rcases List.mem_cons.mp hz with hz | hz
      · subst hz; exact h4
      · exact e3 z hz
    · rw [List.length_cons, Nat.mul_succ]; omega
def encC (c : Nat) : D := .str [c]
/-- a new mark: one to most signs -/
theorem e_new_mark (signs : List Nat) (most : Nat) (p : Pen) (h0 : 0 < signs.length) (h1 : signs.length < 1000) (hm : 0 < most) (hm2 : most < 1000) (ht : p.turn < 900000000) :
    ∃ (m : List Nat) (q : Pen), F__law_new_mark ga [.shr 0, .lst (signs.map encC), .int (most : Int)] [encPen p] = .ok (.str m) [encPen q] ∧ 1 ≤ m.length ∧ m.length ≤ most ∧ (∀ c ∈ m, c ∈ signs) ∧ q.turn ≤ p.turn + 1001 := by
  have hz : (1000000 : Nat) ≤ sizeLine := by decide
  obtain ⟨n, q1, e, e1, e2, e3⟩ := e_draw (ga := ga) p most hm (by omega) (by omega)
  obtain ⟨ys, q, l1, l2, l3, l4⟩ := lc_pen (enc := encC) (sl := [.dat (.shr 0), .dat (.lst (signs.map encC)), .dat (.int (most : Int)), .non]) (f := gN 3) (e := callN 2 (F__law_pick ga) [] (aCons (vr 0) (aCons (vr 1) aNil))) (fun c => c ∈ signs) 1 950000000 (rngL 0 (1 + n)) [] q1 (by simp [rngL]; omega)
    (fun d hd p hp => by
      obtain ⟨x, q, f1, f2, f3, f4⟩ := e_pick (ga := ga) (enc := encC) signs p h0 (by omega) (by omega) (fun _ _ => rfl)
      refine ⟨_, ⟨[.dat (.shr 0), .dat (.lst (signs.map encC)), .dat (.int (most : Int)), .dat d], [encPen q]⟩, x, q, rfl, ?_, rfl, f2, f4⟩
      simp -implicitDefEqProofs -dsimp [f1]
      rfl) (by simp [rngL]; omega)
  have hl : (rngL 0 (1 + n)).length = 1 + n := by simp [rngL]
  refine ⟨ys, q, ?_, by omega, by omega, l3, by omega⟩
  have hr : ∀ sl mu, rngM1 (aCons (binD addA (mret (D.int 1)) (callN 2 (F__law_draw ga) [] (aCons (vr 0) (aCons (vr 2) aNil)))) aNil) ⟨[.dat (.shr 0), .dat (.lst (signs.map encC)), .dat (.int (most : Int)), .non], [encPen p]⟩ = .ok (rngL 0 (1 + n)) ⟨[.dat (.shr 0), .dat (.lst (signs.map encC)), .dat (.int (most : Int)), .non], [encPen q1]⟩ := fun (_ : List Sl) (_ : List Own) => by
    unfold rngM1
    simp -implicitDefEqProofs -dsimp [e]
    rw [if_pos (by omega)]
    show R.ok (rngL 0 (1 + (n : Int)).toNat) _ = _
    rw [show (1 + (n : Int)).toNat = 1 + n by omega]
  have hj : ∀ s, joinD s [] (.lst (ys.map encC)) = some (.str ys) := fun s => by
    have hmap : ys.map encC = (ys.map fun c => [c]).map D.str := by rw [List.map_map]; rfl
    have hs : ((ys.map fun c => [c]).map (·.length)).sum = ys.length := by
      clear l1 l2 l3 hmap
      induction ys with
      | nil => rfl
      | cons y ys ih => simp only [List.map_cons, List.sum_cons, ih, List.length_cons, List.length_nil]; omega
    rw [hmap, join_nil rfl (by rw [hs]; omega)]
    congr 2
    clear l1 l2 l3 hmap hs
    induction ys with
    | nil => rfl
    | cons y ys ih => simp [ih]
  unfold F__law_new_mark
  rw [x_runB]
  unfold m__law_new_mark
  simp -implicitDefEqProofs -dsimp [hr [] [], -x_blk]
  rw [show blkS [Sl.dat (D.shr 0), Sl.dat (D.lst (List.map encC signs)), Sl.dat (D.int (most : Int)), Sl.non] [3] = [.dat (.shr 0), .dat (.lst (signs.map encC)), .dat (.int (most : Int)), .non] from rfl, l1]
  simp -implicitDefEqProofs -dsimp [hj]
end K02
end
section -- KV_k02
set_option Elab.async false
set_option linter.all false
set_option maxRecDepth 100000
set_option maxHeartbeats 1000000
namespace K02
open PySem PySem.Spec L2 DL
variable {ga : Str → Addr}

theorem okPys_str {xs : List (List Nat)} {n : Nat} (h : ∀ x ∈ xs, x.all (· < 0x110000) = true) : okPys (xs.map D.str) n = true := okPys_map fun x hx => h x hx
theorem in_strs {s : S} {neg : Bool} (m : List Nat) (xs : List (List Nat)) (d : D) (hd : dd s d = some (.lst (xs.map D.str))) (hn : ∀ y, d ≠ .str y) : inA neg s (.str m) d = some (.bl (if neg then !xs.contains m else xs.contains m)) := by
  have e1 : rdS s d = some (xs.map D.str) := by rw [x_rdS, hd]
  have e2 : (xs.map D.str).all flatD = true := by
    rw [List.all_eq_true]
    intro x hx
    obtain ⟨y, _, rfl⟩ := List.mem_map.mp hx
    rfl
  have e3 : (xs.map D.str).any (fun y => eqF y (.str m)) = xs.contains m := by
    clear hd e1 e2
    induction xs with
    | nil => rfl
    | cons x xs ih =>
      rw [List.map_cons, List.any_cons, ih, List.contains_cons]
      congr 1
      show (x == m) = (m == x)
      exact Bool.eq_iff_iff.mpr ⟨fun z => by rw [eq_of_beq z]; simp, fun z => by rw [eq_of_beq z]; simp⟩
  have e4 : inD neg s (.str m) d = some (.bl (if neg then !xs.contains m else xs.contains m)) := by
    unfold inD
    split
    · rename_i y h1 h2
      exact absurd rfl (hn _)
    · rw [e1]
      simp only
      rw [if_pos ⟨rfl, e2⟩, e3]
  unfold inA
  rw [e4]
end K02
end
section -- Q2A
set_option Elab.async false
set_option linter.all false
set_option maxRecDepth 100000
set_option maxHeartbeats 1000000
namespace K02
open PySem PySem.Spec L2 DL
variable {ga : Str → Addr}
def rrBody (ga : Str → Addr) : M Fl := (sq (asgM (callN 1 (F_rule_of ga) [] (aCons (vr 3) aNil)) (gN 4))
 (sq (ifM (orT (tstB (binD eqD (vr 2) (mret (D.int (6))))) (orT (tstB (binD (isND false) (vr 4) (mret D.non))) (tstB (binD (inA false) (fldD (ga "Rule") "opening" (vr 4)) (frz (lcM (ownI 1) [5] (gN 5) yesM (fldD (ga "Rule") "opening" (vr 5))))))))
 (raiM (ga "BadTongue") "line" okI (aCons (binD addA (vr 2) (mret (D.int 1))) aNil))
 (mret Fl.nx))
 (dropM (apM (vr 1) (aCons (vr 4) aNil)))))
/-- a line that may be read -/
structure LineOk (x : List Nat) : Prop where
  len : x.length ≤ 100000
  ws : WsOk (TL.spl [32] 0 [] x)
/-- the error with a line's number -/
def badE (ga : Str → Addr) (n : Nat) : Ex := ⟨.ref (ga "BadTongue"), [("line", .int (n : Int))]⟩
theorem okI_nat {n : Nat} (h : n < 1000000) : okI (.int ((n : Int) + 1)) = true := by
  show decide (((n : Int) + 1).natAbs < 2 ^ 60) = true
  rw [decide_eq_true_eq]
  omega
theorem e_rai {s : S} {n : Nat} {L A B C E : Sl} {mu : List Own} (h : n < 1000000) : raiM (ga "BadTongue") "line" okI (aCons (binD addA (vr 2) (mret (D.int 1))) aNil) ⟨[L, A, .dat (.int (n : Int)), B, C, E], mu⟩ = .exc (badE ga (n + 1)) ⟨[L, A, .dat (.int (n : Int)), B, C, E], mu⟩ := by
  have h1 := okI_nat h
  unfold raiM
  simp -implicitDefEqProofs -dsimp
  rw [if_pos h1]
  rfl
section
variable {Ls : Sl} {rs : List Rl} {x : List Nat} {i : Nat} {z4 z5 : Sl} {mu : List Own}
theorem e_rrMany (ok : LineOk x) (hi : i = 6) : rrBody ga ⟨[Ls, .own (.lst (rs.map (encR ga))), .dat (.int (i : Int)), .dat (.str x), z4, z5], mu⟩ = .exc (badE ga (i + 1)) ⟨[Ls, .own (.lst (rs.map (encR ga))), .dat (.int (i : Int)), .dat (.str x), .dat (encRo ga (lineM x)), z5], mu⟩ := by
  have e := e_rule_of (ga := ga) x mu ok.len ok.ws
  have fz1 : ∀ s, fz (encRo ga (lineM x)) s = .ok (encRo ga (lineM x)) s := fun s => by cases lineM x <;> rfl
  have r := e_rai (ga := ga) (s := ⟨[], []⟩) (n := i) (L := Ls) (A := .own (.lst (rs.map (encR ga)))) (B := .dat (.str x)) (C := .dat (encRo ga (lineM x))) (E := z5) (mu := mu) (by omega)
  have ni : (i : Int) = 6 := by omega
  have eq6 : ∀ s, eqD s (.int (i : Int)) (.int 6) = some (.bl true) := fun s => by rw [ni]; rfl
  unfold rrBody
  simp -implicitDefEqProofs -dsimp [e, fz1, eq6]
  rw [r]
  rfl
theorem e_rrNone (ok : LineOk x) (hi : i < 6) (hr : lineM x = none) : rrBody ga ⟨[Ls, .own (.lst (rs.map (encR ga))), .dat (.int (i : Int)), .dat (.str x), z4, z5], mu⟩ = .exc (badE ga (i + 1)) ⟨[Ls, .own (.lst (rs.map (encR ga))), .dat (.int (i : Int)), .dat (.str x), .dat .non, z5], mu⟩ := by
  have e := e_rule_of (ga := ga) x mu ok.len ok.ws
  rw [hr] at e
  have e : F_rule_of ga [.str x] mu = .ok .non mu := e
  have r := e_rai (ga := ga) (s := ⟨[], []⟩) (n := i) (L := Ls) (A := .own (.lst (rs.map (encR ga)))) (B := .dat (.str x)) (C := .dat .non) (E := z5) (mu := mu) (by omega)
  have ni : ¬ (i : Int) = 6 := by omega
  have isn : ∀ s, isND false s .non .non = some (.bl true) := fun _ => rfl
  unfold rrBody
  simp -implicitDefEqProofs -dsimp [e, ni, isn]
  rw [r]
  rfl
theorem e_rrLc (r : Rl) (hn : rs.length ≤ 1000) : lcLoop [bor1 Ls, .bor (.lst (rs.map (encR ga))), .dat (.int (i : Int)), .dat (.str x), .dat (encR ga r), .non] (gN 5) yesM (fldD (ga "Rule") "opening" (vr 5)) (rs.map (encR ga)) [] mu = .ok (rs.map fun r => D.str r.op) ⟨[bor1 Ls, .bor (.lst (rs.map (encR ga))), .dat (.int (i : Int)), .dat (.str x), .dat (encR ga r), .non], mu⟩ := by
  rw [lc_al (encR ga) rs (fun r => D.str r.op) rfl]
  · rfl
  · intro c hc
    simp -implicitDefEqProofs -dsimp
  · have hz : (1000000 : Nat) ≤ sizeLine := by decide
    simp; omega
theorem e_rrIn (m : List Nat) (b : Bool) (hk : decide (m ∈ rs.map (·.op)) = b) : ∀ s, inA false s (.str m) (.lst (rs.map fun r => D.str r.op)) = some (.bl b) := fun s => by
  have := in_strs (neg := false) (s := s) m (rs.map (·.op)) (.lst ((rs.map (·.op)).map D.str)) rfl (fun y z => by cases z)
  rw [List.map_map] at this
  have hc : (rs.map (·.op)).contains m = b := by rw [← hk]; exact List.contains_eq_mem ..
  rw [hc] at this
  cases b <;> exact this
theorem e_rrTwice (r : Rl) (ok : LineOk x) (hi : i < 6) (hr : lineM x = some r) (hn : rs.length ≤ 1000) (hk : r.op ∈ rs.map (·.op)) :
    rrBody ga ⟨[Ls, .own (.lst (rs.map (encR ga))), .dat (.int (i : Int)), .dat (.str x), z4, z5], mu⟩ = .exc (badE ga (i + 1)) ⟨[Ls, .own (.lst (rs.map (encR ga))), .dat (.int (i : Int)), .dat (.str x), .dat (encR ga r), z5], mu⟩ := by
  have e := e_rule_of (ga := ga) x mu ok.len ok.ws
  rw [hr] at e
  have e : F_rule_of ga [.str x] mu = .ok (encR ga r) mu := e
  have r1 := e_rai (ga := ga) (s := ⟨[], []⟩) (n := i) (L := Ls) (A := .own (.lst (rs.map (encR ga)))) (B := .dat (.str x)) (C := .dat (encR ga r)) (E := z5) (mu := mu) (by omega)
  have ni : ¬ (i : Int) = 6 := by omega
  have isn : ∀ s, isND false s (encR ga r) .non = some (.bl false) := fun _ => rfl
  have lc := e_rrLc (ga := ga) (Ls := Ls) (rs := rs) (x := x) (i := i) (mu := mu) r hn
  have hin := e_rrIn (rs := rs) r.op true (by simpa using hk)
  unfold rrBody
  simp -implicitDefEqProofs -dsimp [e, ni, isn, lc, hin, -x_blk]
  rw [show blkS [Ls, Sl.own (Own.lst (List.map (encR ga) rs)), Sl.dat (D.int (i : Int)), Sl.dat (D.str x), Sl.dat (encR ga r), z5] [5] = [bor1 Ls, .bor (.lst (rs.map (encR ga))), .dat (.int (i : Int)), .dat (.str x), .dat (encR ga r), .non] from rfl, lc]
  simp -implicitDefEqProofs -dsimp [hin]
  rw [r1]
  rfl
theorem e_rrGood (r : Rl) (ok : LineOk x) (hr : lineM x = some r) (hi : i < 6) (hn : rs.length ≤ 1000) (hk : r.op ∉ rs.map (·.op)) :
    rrBody ga ⟨[Ls, .own (.lst (rs.map (encR ga))), .dat (.int (i : Int)), .dat (.str x), z4, z5], mu⟩ = .ok .nx ⟨[Ls, .own (.lst ((rs ++ [r]).map (encR ga))), .dat (.int (i : Int)), .dat (.str x), .dat (encR ga r), z5], mu⟩ := by
  have hz : (1000000 : Nat) ≤ sizeLine := by decide
  have e := e_rule_of (ga := ga) x mu ok.len ok.ws
  rw [hr] at e
  have e : F_rule_of ga [.str x] mu = .ok (encR ga r) mu := e
  have ni : ¬ (i : Int) = 6 := by omega
  have isn : ∀ s, isND false s (encR ga r) .non = some (.bl false) := fun _ => rfl
  have lc := e_rrLc (ga := ga) (Ls := Ls) (rs := rs) (x := x) (i := i) (mu := mu) r hn
  have hin := e_rrIn (rs := rs) r.op false (by simpa using hk)
  have l1 : (rs.map (encR ga)).length < sizeLine := by rw [List.length_map]; omega
  unfold rrBody
  simp -implicitDefEqProofs -dsimp [e, ni, isn, lc, hin, -x_blk]
  rw [show blkS [Ls, Sl.own (Own.lst (List.map (encR ga) rs)), Sl.dat (D.int (i : Int)), Sl.dat (D.str x), Sl.dat (encR ga r), z5] [5] = [bor1 Ls, .bor (.lst (rs.map (encR ga))), .dat (.int (i : Int)), .dat (.str x), .dat (encR ga r), .non] from rfl, lc]
  simp -implicitDefEqProofs -dsimp [hin]
  simp -implicitDefEqProofs -dsimp at l1
  rw [if_pos l1]
  rfl
end
/-- the number of the first line that is refused -/
def readM (acc : List Rl) : List (List Nat) → Option Nat
  | [] => none
  | x :: ls => match lineM x with
    | none => some (acc.length + 1)
    | some r => if acc.length = 6 ∨ r.op ∈ acc.map (·.op) then some (acc.length + 1) else readM (acc ++ [r]) ls
theorem e_rrLoop (Ls : Sl) (mu : List Own) : ∀ (ls : List (List Nat)) (acc : List Rl) (z2 z3 z4 z5 : Sl), (∀ x ∈ ls, LineOk x) → acc.length ≤ 6 →
    match readM acc ls with
    | none => ∃ (rs : List Rl) (y2 y3 y4 y5 : Sl), loopD (gT 2 (gCons' (gN 2) (gCons' (gN 3) gNil'))) (rrBody ga) (enumL acc.length (ls.map D.str)) ⟨[Ls, .own (.lst (acc.map (encR ga))), z2, z3, z4, z5], mu⟩ = .ok .nx ⟨[Ls, .own (.lst (rs.map (encR ga))), y2, y3, y4, y5], mu⟩
    | some k => ∃ s : S, s.mu = mu ∧ loopD (gT 2 (gCons' (gN 2) (gCons' (gN 3) gNil'))) (rrBody ga) (enumL acc.length (ls.map D.str)) ⟨[Ls, .own (.lst (acc.map (encR ga))), z2, z3, z4, z5], mu⟩ = .exc (badE ga k) s
  | [], acc, z2, z3, z4, z5, _, _ => ⟨acc, z2, z3, z4, z5, rfl⟩
  | x :: ls, acc, z2, z3, z4, z5, hok, hl => by
    have okx := hok x (by simp)
    have tg : gT 2 (gCons' (gN 2) (gCons' (gN 3) gNil')) (.tup [.int (acc.length : Int), .str x]) ⟨[Ls, .own (.lst (acc.map (encR ga))), z2, z3, z4, z5], mu⟩ = some ⟨[Ls, .own (.lst (acc.map (encR ga))), .dat (.int (acc.length : Int)), .dat (.str x), z4, z5], mu⟩ := rfl
    have stop : ∀ (s1 : S), s1.mu = mu → rrBody ga ⟨[Ls, .own (.lst (acc.map (encR ga))), .dat (.int (acc.length : Int)), .dat (.str x), z4, z5], mu⟩ = .exc (badE ga (acc.length + 1)) s1 →
        ∃ s : S, s.mu = mu ∧ loopD (gT 2 (gCons' (gN 2) (gCons' (gN 3) gNil'))) (rrBody ga) (enumL acc.length ((x :: ls).map D.str)) ⟨[Ls, .own (.lst (acc.map (encR ga))), z2, z3, z4, z5], mu⟩ = .exc (badE ga (acc.length + 1)) s := fun s1 hm h1 => by
      refine ⟨s1, hm, ?_⟩
      rw [List.map_cons, enumL, x_loop_cons, tg]
      simp only
      rw [h1]
      rfl
    unfold readM
    cases hr : lineM x with
    | none =>
      by_cases h6 : acc.length = 6
      · exact stop _ rfl (e_rrMany okx h6)
      · exact stop _ rfl (e_rrNone okx (by omega) hr)
    | some r =>
      simp only
      by_cases h6 : acc.length = 6
      · rw [if_pos (.inl h6)]
        exact stop _ rfl (e_rrMany okx h6)
      by_cases hk : r.op ∈ acc.map (·.op)
      · rw [if_pos (.inr hk)]
        exact stop _ rfl (e_rrTwice r okx (by omega) hr (by omega) hk)
      · rw [if_neg (by simp only [h6, hk, or_self, not_false_eq_true])]
        have st := e_rrGood (ga := ga) (Ls := Ls) (rs := acc) (i := acc.length) (z4 := z4) (z5 := z5) (mu := mu) r okx hr (by omega) (by omega) hk
        have ih := e_rrLoop Ls mu ls (acc ++ [r]) (.dat (.int (acc.length : Int))) (.dat (.str x)) (.dat (encR ga r)) z5 (fun y hy => hok y (by simp [hy])) (by simp; omega)
        have go : ∀ Rz, loopD (gT 2 (gCons' (gN 2) (gCons' (gN 3) gNil'))) (rrBody ga) (enumL (acc ++ [r]).length (ls.map D.str)) ⟨[Ls, .own (.lst ((acc ++ [r]).map (encR ga))), .dat (.int (acc.length : Int)), .dat (.str x), .dat (encR ga r), z5], mu⟩ = Rz →
            loopD (gT 2 (gCons' (gN 2) (gCons' (gN 3) gNil'))) (rrBody ga) (enumL acc.length ((x :: ls).map D.str)) ⟨[Ls, .own (.lst (acc.map (encR ga))), z2, z3, z4, z5], mu⟩ = Rz := fun Rz h => by
          rw [List.map_cons, enumL, x_loop_cons, tg]
          simp only
          rw [st]
          simp only [R.bind_ok]
          rw [List.length_append] at h
          exact h
        cases hq : readM (acc ++ [r]) ls with
        | none =>
          rw [hq] at ih
          obtain ⟨rs, y2, y3, y4, y5, e⟩ := ih
          exact ⟨rs, y2, y3, y4, y5, go _ e⟩
        | some k =>
          rw [hq] at ih
          obtain ⟨s, h1, h2⟩ := ih
          exact ⟨s, h1, go _ h2⟩
theorem e_read_rules (ls : List (List Nat)) (mu : List Own) (ok : ∀ x ∈ ls, LineOk x) : match readM [] ls with
    | none => ∃ rs : List Rl, F_read_rules ga [.tup (ls.map D.str)] mu = .ok (.lst (rs.map (encR ga))) mu
    | some k => F_read_rules ga [.tup (ls.map D.str)] mu = .exc (badE ga k) mu := by
  have hm : m_read_rules ga = sq (setO 1 (lstM aNil)) (sq (forM' (enumA (aCons (vr 0) aNil)) (gT 2 (gCons' (gN 2) (gCons' (gN 3) gNil'))) (rrBody ga)) (retM (vr 1))) := rfl
  have hb : begS 6 [.tup (ls.map D.str)] = [.dat (.tup (ls.map D.str)), .non, .non, .non, .non, .non] := rfl
  have hA : setO 1 (lstM aNil) ⟨[.dat (.tup (ls.map D.str)), .non, .non, .non, .non, .non], mu⟩ = .ok .nx ⟨[.dat (.tup (ls.map D.str)), .own (.lst []), .non, .non, .non, .non], mu⟩ := by
    simp -implicitDefEqProofs -dsimp
  have hE : enumA (aCons (vr 0) aNil) ⟨[.dat (.tup (ls.map D.str)), .own (.lst []), .non, .non, .non, .non], mu⟩ = .ok (enumL 0 (ls.map D.str)) ⟨[.dat (.tup (ls.map D.str)), .own (.lst []), .non, .non, .non, .non], mu⟩ := by
    simp -implicitDefEqProofs -dsimp
  have lp := e_rrLoop (ga := ga) (.dat (.tup (ls.map D.str))) mu ls [] .non .non .non .non ok (by decide)
  cases hq : readM [] ls with
  | none =>
    rw [hq] at lp
    obtain ⟨rs, y2, y3, y4, y5, e⟩ := lp
    refine ⟨rs, ?_⟩
    unfold F_read_rules
    rw [x_runB, hb, hm, x_sq, hA]
    simp only [R.bind_ok]
    rw [x_sq, x_for, hE]
    simp only [R.bind_ok]
    have e : loopD (gT 2 (gCons' (gN 2) (gCons' (gN 3) gNil'))) (rrBody ga) (enumL 0 (ls.map D.str)) ⟨[.dat (.tup (ls.map D.str)), .own (.lst []), .non, .non, .non, .non], mu⟩ = _ := e
    rw [e]
    simp -implicitDefEqProofs -dsimp
  | some k =>
    rw [hq] at lp
    obtain ⟨s, h1, e⟩ := lp
    show F_read_rules ga _ mu = _
    unfold F_read_rules
    rw [x_runB, hb, hm, x_sq, hA]
    simp only [R.bind_ok]
    rw [x_sq, x_for, hE]
    simp only [R.bind_ok]
    have e : loopD (gT 2 (gCons' (gN 2) (gCons' (gN 3) gNil'))) (rrBody ga) (enumL 0 (ls.map D.str)) ⟨[.dat (.tup (ls.map D.str)), .own (.lst []), .non, .non, .non, .non], mu⟩ = _ := e
    rw [e]
    simp only [R.bind_exc]
    rw [h1]
end K02
end
section -- LB_k02
set_option Elab.async false
set_option linter.all false
set_option maxRecDepth 100000
set_option maxHeartbeats 1000000
namespace K02
open PySem PySem.Spec L2 DL
variable {ga : Str → Addr}
/-- the signs of a small number -/
def digC (n : Int) : List Nat := (Str.ofString (toString n)).cps.toList
def wordsL (l : Lw) : List (List Nat) := [l.kind, l.mark, toC, if l.close ≠ [] then l.close else lineC] ++ (if 0 < l.deep then [nestedC, digC l.deep] else []) ++ (if l.esc ≠ [] then [escapeC, l.esc] else []) ++ (if l.dbl = true then [doubledC] else []) ++ (if l.line = true then [lineC] else [])
def ruleT (l : Lw) : List Nat := TL.joinL [32] (wordsL l)
def tA : M Fl := (asgM (vr 0) (gT 7 (gCons' (gN 1) (gCons' (gN 2) (gCons' (gN 3) (gCons' (gN 4) (gCons' (gN 5) (gCons' (gN 6) (gCons' (gN 7) gNil')))))))))
def tB : M Fl := (asgM (binD addA (frz (lstM (aCons (vr 1) (aCons (vr 2) (aCons (mret (D.str (cs "to"))) (aCons (ifD (tstB (binD neD (vr 3) (mret (D.str (cs ""))))) (vr 3) (mret (D.str (cs "line")))) aNil)))))) (frz (ifF (tstB (binD fGt (vr 4) (mret (D.int 0)))) (lstM (aCons (mret (D.str (cs "nested"))) (aCons (calM strID (aCons (vr 4) aNil)) aNil))) (lstM aNil)))) (gN 8))
def tC' : M Fl := (asgM (binD addA (binD addA (vr 8) (frz (ifF (tstB (binD neD (vr 5) (mret (D.str (cs ""))))) (lstM (aCons (mret (D.str (cs "escape"))) (aCons (vr 5) aNil))) (lstM aNil)))) (frz (ifF (tstD (vr 6)) (lstM (aCons (mret (D.str (cs "doubled"))) aNil)) (lstM aNil)))) (gN 8))
def tD' : M Fl := (retM (sm1 joinD (mret (D.str (cs " "))) (binD addA (vr 8) (frz (ifF (tstD (vr 7)) (lstM (aCons (mret (D.str (cs "line"))) aNil)) (lstM aNil))))))
def slR (l : Lw) (z : Sl) : List Sl := [.dat (encL l), .dat (.str l.kind), .dat (.str l.mark), .dat (.str l.close), .dat (.int l.deep), .dat (.str l.esc), .dat (.bl l.dbl), .dat (.bl l.line), z]
theorem e_tA (l : Lw) (mu : List Own) : tA ⟨[.dat (encL l), .non, .non, .non, .non, .non, .non, .non, .non], mu⟩ = .ok .nx ⟨slR l .non, mu⟩ := rfl
theorem addL {s : S} (a b : List (List Nat)) (h : a.length + b.length ≤ 1000) : addA s (.lst (a.map D.str)) (.lst (b.map D.str)) = some (.lst ((a ++ b).map D.str)) := by
  have hz : (1000 : Nat) ≤ sizeLine := by decide
  rw [addA_lst, if_pos (by simp; omega), List.map_append]
theorem e_tB (l : Lw) (mu : List Own) (hd : l.deep.natAbs.log2 < 1920) : tB ⟨slR l .non, mu⟩ = .ok .nx ⟨slR l (.dat (.lst (([l.kind, l.mark, toC, if l.close ≠ [] then l.close else lineC] ++ (if 0 < l.deep then [nestedC, digC l.deep] else [])).map D.str))), mu⟩ := by
  have hs : ∀ s, strID s [.int l.deep] = some (.str (digC l.deep)) := fun s => by
    show (if l.deep.natAbs.log2 < 1920 then some (D.str (Str.ofString (toString l.deep)).cps.toList) else none) = _
    rw [if_pos hd]
    rfl
  have a1 : ∀ s (x : List Nat), addA s (.lst [.str l.kind, .str l.mark, .str (cs "to"), .str x]) (.lst [.str (cs "nested"), .str (digC l.deep)]) = some (.lst [.str l.kind, .str l.mark, .str (cs "to"), .str x, .str (cs "nested"), .str (digC l.deep)]) := fun s x => addL [l.kind, l.mark, cs "to", x] [cs "nested", digC l.deep] (by simp)
  have a2 : ∀ s (x : List Nat), addA s (.lst [.str l.kind, .str l.mark, .str (cs "to"), .str x]) (.lst []) = some (.lst [.str l.kind, .str l.mark, .str (cs "to"), .str x]) := fun s x => addL [l.kind, l.mark, cs "to", x] [] (by simp)
  have n2 : (2 : Nat) ≤ sizeLine := by decide
  unfold tB slR
  by_cases c1 : l.close = []
  · by_cases c2 : 0 < l.deep
    · simp -implicitDefEqProofs -dsimp [-addA_lst, -x_int1, c1, c2, hs, a1, a2] <;> first | rfl | exact ⟨rfl, rfl⟩ | exact ⟨rfl, rfl, rfl⟩
    · simp -implicitDefEqProofs -dsimp [-addA_lst, -x_int1, c1, c2, hs, a1, a2] <;> first | rfl | exact ⟨rfl, rfl⟩ | exact ⟨rfl, rfl, rfl⟩
  · by_cases c2 : 0 < l.deep
    · simp -implicitDefEqProofs -dsimp [-addA_lst, -x_int1, c1, c2, hs, a1, a2] <;> first | rfl | exact ⟨rfl, rfl⟩ | exact ⟨rfl, rfl, rfl⟩
    · simp -implicitDefEqProofs -dsimp [-addA_lst, -x_int1, c1, c2, hs, a1, a2] <;> first | rfl | exact ⟨rfl, rfl⟩ | exact ⟨rfl, rfl, rfl⟩
theorem e_tC (l : Lw) (mu : List Own) (xs : List (List Nat)) (h : xs.length ≤ 100) : tC' ⟨slR l (.dat (.lst (xs.map D.str))), mu⟩ = .ok .nx ⟨slR l (.dat (.lst ((xs ++ (if l.esc ≠ [] then [escapeC, l.esc] else []) ++ (if l.dbl = true then [doubledC] else [])).map D.str))), mu⟩ := by
  obtain ⟨X, hX⟩ : ∃ X, X = D.lst (xs.map D.str) := ⟨_, rfl⟩
  have a1 : ∀ s, addA s X (.lst [.str (cs "escape"), .str l.esc]) = some (.lst ((xs ++ [escapeC, l.esc]).map D.str)) := fun s => by rw [hX]; exact addL xs [escapeC, l.esc] (by simp; omega)
  have a2 : ∀ s, addA s X (.lst []) = some (.lst ((xs ++ []).map D.str)) := fun s => by rw [hX]; exact addL xs [] (by simp; omega)
  have a3 : ∀ s (ys : List (List Nat)), ys.length ≤ 102 → addA s (.lst (ys.map D.str)) (.lst [.str (cs "doubled")]) = some (.lst ((ys ++ [doubledC]).map D.str)) := fun s ys hy => addL ys [doubledC] (by simp; omega)
  have a4 : ∀ s (ys : List (List Nat)), ys.length ≤ 102 → addA s (.lst (ys.map D.str)) (.lst []) = some (.lst ((ys ++ []).map D.str)) := fun s ys hy => addL ys [] (by simp; omega)
  have k1 : (xs ++ [escapeC, l.esc]).length ≤ 102 := by simp; omega
  have k2 : (xs ++ []).length ≤ 102 := by simp; omega
  have b1 := fun s => a3 s _ k1
  have b2 := fun s => a3 s _ k2
  have b3 := fun s => a4 s _ k1
  have b4 := fun s => a4 s _ k2
  rw [← hX]
  unfold tC' slR
  by_cases c1 : l.esc = []
  · cases c2 : l.dbl with
    | true => simp -implicitDefEqProofs -dsimp [-addA_lst, -List.map_append, -List.append_nil, c1, c2, a2, b2]
    | false => simp -implicitDefEqProofs -dsimp [-addA_lst, -List.map_append, -List.append_nil, c1, c2, a2, b4]
  · cases c2 : l.dbl with
    | true => simp -implicitDefEqProofs -dsimp [-addA_lst, -List.map_append, -List.append_nil, c1, c2, a1, b1]
    | false => simp -implicitDefEqProofs -dsimp [-addA_lst, -List.map_append, -List.append_nil, c1, c2, a1, b3]
theorem e_tD (l : Lw) (mu : List Own) (xs : List (List Nat)) (h : xs.length ≤ 100) (hx : ∀ x ∈ xs, x.length ≤ 1000) : tD' ⟨slR l (.dat (.lst (xs.map D.str))), mu⟩ = .ok (.rt (.str (TL.joinL [32] (xs ++ (if l.line = true then [lineC] else []))))) ⟨slR l (.dat (.lst (xs.map D.str))), mu⟩ := by
  obtain ⟨X, hX⟩ : ∃ X, X = D.lst (xs.map D.str) := ⟨_, rfl⟩
  have a1 : ∀ s, addA s X (.lst [.str (cs "line")]) = some (.lst ((xs ++ [lineC]).map D.str)) := fun s => by rw [hX]; exact addL xs [lineC] (by simp; omega)
  have a2 : ∀ s, addA s X (.lst []) = some (.lst ((xs ++ []).map D.str)) := fun s => by rw [hX]; exact addL xs [] (by simp; omega)
  have cb : cs " " = [32] := by decide +kernel
  have j1 : ∀ s, joinD s [32] (.lst ((xs ++ [lineC]).map D.str)) = some (.str (TL.joinL [32] (xs ++ [lineC]))) := fun s => join_any rfl (by
    have := sum_le (ys := xs ++ [lineC]) (b := 1000) (by
      intro y hy
      rcases List.mem_append.mp hy with hy | hy
      · exact hx y hy
      · simp at hy; subst hy; decide +kernel)
    simp only [List.length_append, List.length_cons, List.length_nil, Nat.mul_one] at this ⊢
    omega)
  have j2 : ∀ s, joinD s [32] (.lst ((xs ++ []).map D.str)) = some (.str (TL.joinL [32] (xs ++ []))) := fun s => join_any rfl (by
    have := sum_le (ys := xs ++ []) (b := 1000) (by simpa using hx)
    simp only [List.length_append, List.length_cons, List.length_nil, Nat.mul_one] at this ⊢
    omega)
  rw [← hX]
  unfold tD' slR
  cases c2 : l.line with
  | true => simp -implicitDefEqProofs -dsimp [-addA_lst, -List.map_append, -List.append_nil, c2, a1, j1, cb]
  | false => simp -implicitDefEqProofs -dsimp [-addA_lst, -List.map_append, -List.append_nil, c2, a2, j2, cb]
structure LwB (l : Lw) : Prop where
  hd : l.deep.natAbs.log2 < 1920
  h1 : l.kind.length ≤ 1000
  h2 : l.mark.length ≤ 1000
  h3 : l.close.length ≤ 1000
  h4 : l.esc.length ≤ 1000
  h5 : (digC l.deep).length ≤ 1000
theorem e_rule_text (l : Lw) (mu : List Own) (o : LwB l) : F__law_rule_text ga [encL l] mu = .ok (.str (ruleT l)) mu := by
  have hm : m__law_rule_text ga = sq tA (sq tB (sq tC' tD')) := rfl
  have hb : begS 9 [encL l] = [.dat (encL l), .non, .non, .non, .non, .non, .non, .non, .non] := rfl
  unfold F__law_rule_text
  rw [x_runB, hb, hm, x_sq, e_tA]
  simp only [R.bind_ok]
  rw [x_sq, e_tB l mu o.hd]
  simp only [R.bind_ok]
  rw [x_sq, e_tC l mu _ (by simp; split <;> simp)]
  simp only [R.bind_ok]
  rw [e_tD l mu _ (by simp; split <;> split <;> split <;> simp) (by
    intro x hx
    have c1 : (toC).length ≤ 1000 := by decide +kernel
    have c2 : (lineC).length ≤ 1000 := by decide +kernel
    have c3 : (nestedC).length ≤ 1000 := by decide +kernel
    have c4 : (escapeC).length ≤ 1000 := by decide +kernel
    have c5 : (doubledC).length ≤ 1000 := by decide +kernel
    have := o.h1; have := o.h2; have := o.h3; have := o.h4; have := o.h5
    simp only [List.mem_append, List.mem_cons, List.not_mem_nil, or_false] at hx
    rcases hx with (((h | h | h | h) | h) | h) | h
    · rw [h]; assumption
    · rw [h]; assumption
    · rw [h]; assumption
    · rw [h]; split <;> assumption
    · split at h
      · simp at h; rcases h with h | h <;> (rw [h]; assumption)
      · cases h
    · split at h
      · simp at h; rcases h with h | h <;> (rw [h]; assumption)
      · cases h
    · split at h
      · simp at h; rw [h]; assumption
      · cases h)]
  rfl
end K02
end
section -- LC_k02
set_option Elab.async false
set_option linter.all false
set_option maxRecDepth 100000
set_option maxHeartbeats 1000000
namespace K02
open PySem PySem.Spec L2 DL
variable {ga : Str → Addr}
theorem nested_eq : nestedC = [110, 101, 115, 116, 101, 100] := by decide +kernel
theorem escape_eq : escapeC = [101, 115, 99, 97, 112, 101] := by decide +kernel
theorem doubled_eq : doubledC = [100, 111, 117, 98, 108, 101, 100] := by decide +kernel
theorem line_eq : lineC = [108, 105, 110, 101] := by decide +kernel
theorem to_eq : toC = [116, 111] := by decide +kernel
theorem dig2 : digC 2 = [50] := by decide +kernel
theorem dig3 : digC 3 = [51] := by decide +kernel
theorem dig4 : digC 4 = [52] := by decide +kernel
/-- marks and escape are of the signs that may stand there -/
structure LwS (l : Lw) : Prop where
  v : LwV l
  mark : ∀ c ∈ l.mark, c ∈ mkS
  close : ∀ c ∈ l.close, c ∈ mkS
  esc : ∀ c ∈ l.esc, c ∈ mkS
theorem mk_nb : ∀ c ∈ mkS, c ≠ 32 ∧ c ≠ 10 ∧ c < 256 ∧ c ≠ 108 := by rw [mkS_eq]; decide
theorem mark_ok {m : List Nat} (h1 : 1 ≤ m.length) (h4 : m.length ≤ 4) (h : ∀ c ∈ m, c ∈ mkS) : isMarkB m = true := by
  unfold isMarkB
  simp [h1, h4]
  exact h
theorem not_line {m : List Nat} (h : ∀ c ∈ m, c ∈ mkS) : m ≠ lineC := by
  intro e
  have := h 108 (by rw [e, line_eq]; simp)
  exact (mk_nb 108 this).2.2.2 rfl
theorem deep_cases {l : Lw} (v : LwV l) : l.deep = 0 ∨ l.deep = 2 ∨ l.deep = 3 ∨ l.deep = 4 := by
  rcases v.deep with h | ⟨h1, h2, _⟩
  · left; exact h
  · omega
/-- the options' words -/
def restL (l : Lw) : List (List Nat) := (if 0 < l.deep then [nestedC, digC l.deep] else []) ++ ((if l.esc ≠ [] then [escapeC, l.esc] else []) ++ ((if l.dbl = true then [doubledC] else []) ++ (if l.line = true then [lineC] else [])))
theorem words_rest (l : Lw) : wordsL l = l.kind :: l.mark :: toC :: (if l.close ≠ [] then l.close else lineC) :: restL l := by
  unfold wordsL restL
  simp only [List.append_assoc, List.cons_append, List.nil_append]
theorem optC_here {pr r : List (List Nat)} {w : List Nat} : optC (pr ++ w :: r) pr.length w = (true, pr.length + 1) := by
  unfold optC
  rw [List.drop_left]
  simp
theorem optC_not {pr r : List (List Nat)} {w : List Nat} (h : r.head? ≠ some w) : optC (pr ++ r) pr.length w = (false, pr.length) := by
  unfold optC
  rw [List.drop_left, if_neg]
  intro z
  cases r with
  | nil => cases z
  | cons x r => simp at z; exact h (by simp [z])
theorem opts_tail (pr : List (List Nat)) (d l : Bool) :
    let ws := pr ++ ((if d = true then [doubledC] else []) ++ (if l = true then [lineC] else []))
    (optC ws pr.length doubledC).1 = d ∧ (optC ws (optC ws pr.length doubledC).2 lineC).1 = l ∧ (optC ws (optC ws pr.length doubledC).2 lineC).2 = ws.length := by
  have ne : lineC ≠ doubledC := by rw [line_eq, doubled_eq]; decide
  cases d with
  | true =>
    cases l with
    | true =>
      simp only [if_true, List.cons_append, List.nil_append]
      rw [optC_here]
      simp only
      have e : pr ++ [doubledC, lineC] = (pr ++ [doubledC]) ++ lineC :: [] := by simp
      have := optC_here (pr := pr ++ [doubledC]) (r := []) (w := lineC)
      rw [← e] at this
      simp only [List.length_append, List.length_cons, List.length_nil] at this
      rw [this]
      simp
    | false =>
      simp only [if_true, Bool.false_eq_true, if_false, List.append_nil]
      rw [optC_here]
      simp only
      have e : pr ++ [doubledC] = (pr ++ [doubledC]) ++ [] := by simp
      have := optC_not (pr := pr ++ [doubledC]) (r := []) (w := lineC) (by simp)
      rw [← e] at this
      simp only [List.length_append, List.length_cons, List.length_nil] at this
      rw [this]
      simp
  | false =>
    cases l with
    | true =>
      simp only [if_true, Bool.false_eq_true, if_false, List.nil_append]
      rw [optC_not (by simp [ne])]
      simp only
      rw [optC_here]
      simp
    | false =>
      simp only [Bool.false_eq_true, if_false, List.nil_append]
      rw [optC_not (by simp)]
      simp only
      rw [optC_not (by simp)]
      simp
theorem head_tail (d l : Bool) (w : List Nat) (h1 : w ≠ doubledC) (h2 : w ≠ lineC) : ((if d = true then [doubledC] else []) ++ (if l = true then [lineC] else [])).head? ≠ some w := by
  cases d <;> cases l <;> simp [Ne.symm h1, Ne.symm h2]
theorem opts_rest {l : Lw} (s : LwS l) : optsM (restL l) = some ⟨l.deep, l.esc, l.dbl, l.line⟩ := by
  have ne1 : nestedC ≠ escapeC := by rw [nested_eq, escape_eq]; decide
  have ne2 : nestedC ≠ doubledC := by rw [nested_eq, doubled_eq]; decide
  have ne3 : nestedC ≠ lineC := by rw [nested_eq, line_eq]; decide
  have ne4 : escapeC ≠ doubledC := by rw [escape_eq, doubled_eq]; decide
  have ne5 : escapeC ≠ lineC := by rw [escape_eq, line_eq]; decide
  obtain ⟨T, hT⟩ : ∃ T, T = (if l.dbl = true then [doubledC] else []) ++ (if l.line = true then [lineC] else []) := ⟨_, rfl⟩
  have hT1 : T.head? ≠ some nestedC := by rw [hT]; exact head_tail _ _ _ ne2 ne3
  have hT2 : T.head? ≠ some escapeC := by rw [hT]; exact head_tail _ _ _ ne4 ne5
  -- the escape
  have hB : ∀ pr : List (List Nat), optB (pr ++ ((if l.esc ≠ [] then [escapeC, l.esc] else []) ++ T)) pr.length = some (l.esc, (pr ++ (if l.esc ≠ [] then [escapeC, l.esc] else [])).length) := by
    intro pr
    unfold optB
    rw [List.drop_left]
    rcases s.v.esc with h | ⟨c, h⟩
    · have : (if l.esc ≠ [] then [escapeC, l.esc] else []) = [] := by rw [if_neg (by simp [h])]
      rw [this]
      simp only [List.nil_append]
      rw [if_neg]
      · rw [h]; simp
      · intro z
        cases hq : T with
        | nil => rw [hq] at z; cases z
        | cons x r => rw [hq] at z hT2; simp at z; exact hT2 (by simp [z])
    · have : (if l.esc ≠ [] then [escapeC, l.esc] else []) = [escapeC, l.esc] := by rw [if_pos (by simp [h])]
      rw [this]
      simp only [List.cons_append, List.nil_append]
      rw [if_pos (by simp)]
      have g : (pr ++ escapeC :: l.esc :: T)[pr.length + 1]? = some l.esc := by
        rw [List.getElem?_append_right (by omega)]
        simp
      rw [g]
      simp only
      rw [if_pos ⟨by rw [h]; rfl, mark_ok (by rw [h]; simp) (by rw [h]; simp) s.esc⟩]
      simp
  have fin : ∀ (pr : List (List Nat)) (n : Int), optA (pr ++ ((if l.esc ≠ [] then [escapeC, l.esc] else []) ++ T)) = some (n, pr.length) → n = l.deep → optsM (pr ++ ((if l.esc ≠ [] then [escapeC, l.esc] else []) ++ T)) = some ⟨l.deep, l.esc, l.dbl, l.line⟩ := by
    intro pr n hA hn
    unfold optsM
    rw [hA]
    simp only [Option.bind_some]
    rw [hB pr]
    simp only [Option.bind_some]
    have ot := opts_tail (pr ++ (if l.esc ≠ [] then [escapeC, l.esc] else [])) l.dbl l.line
    rw [← hT] at ot
    simp only at ot
    rw [List.append_assoc] at ot
    obtain ⟨o1, o2, o3⟩ := ot
    rw [if_pos o3, o1, o2, hn]
  have hr : restL l = (if 0 < l.deep then [nestedC, digC l.deep] else []) ++ ((if l.esc ≠ [] then [escapeC, l.esc] else []) ++ T) := by unfold restL; rw [hT]
  rw [hr]
  rcases deep_cases s.v with h | h | h | h
  · have : (if 0 < l.deep then [nestedC, digC l.deep] else []) = [] := by rw [if_neg (by omega)]
    rw [this]
    refine fin [] 0 ?_ h.symm
    simp only [List.nil_append, List.length_nil]
    have hh : ((if l.esc ≠ [] then [escapeC, l.esc] else []) ++ T).head? ≠ some nestedC := by
      by_cases c : l.esc = []
      · rw [if_neg (by simp [c])]; exact hT1
      · rw [if_pos c]; simp [Ne.symm ne1]
    cases hq : ((if l.esc ≠ [] then [escapeC, l.esc] else []) ++ T) with
    | nil => rfl
    | cons x r =>
      rw [hq] at hh
      simp only [optA]
      rw [if_neg (by intro z; exact hh (by simp [z]))]
  · have : (if 0 < l.deep then [nestedC, digC l.deep] else []) = [nestedC, [50]] := by rw [if_pos (by omega), h, dig2]
    rw [this]
    refine fin [nestedC, [50]] 2 ?_ h.symm
    simp [optA]
  · have : (if 0 < l.deep then [nestedC, digC l.deep] else []) = [nestedC, [51]] := by rw [if_pos (by omega), h, dig3]
    rw [this]
    refine fin [nestedC, [51]] 3 ?_ h.symm
    simp [optA]
  · have : (if 0 < l.deep then [nestedC, digC l.deep] else []) = [nestedC, [52]] := by rw [if_pos (by omega), h, dig4]
    rw [this]
    refine fin [nestedC, [52]] 4 ?_ h.symm
    simp [optA]
/-- every word of a rule's line: not too long, of the model's signs, no blank, no newline -/
structure WordOk (w : List Nat) : Prop where
  len : w.length ≤ 10
  lt : ∀ c ∈ w, c < 256
  nb : 32 ∉ w
  nn : 10 ∉ w
theorem word_mk {w : List Nat} (h : w.length ≤ 10) (k : ∀ c ∈ w, c ∈ mkS) : WordOk w :=
  ⟨h, fun c hc => (mk_nb c (k c hc)).2.2.1, fun z => (mk_nb _ (k _ z)).1 rfl, fun z => (mk_nb _ (k _ z)).2.1 rfl⟩
theorem word_of {w : List Nat} (h : (decide (w.length ≤ 10) && (w.all (fun c => decide (c < 256)) && (!w.contains 32 && !w.contains 10))) = true) : WordOk w := by
  simp only [Bool.and_eq_true, decide_eq_true_eq, List.all_eq_true, Bool.not_eq_true', List.contains_eq_mem, decide_eq_false_iff_not] at h
  exact ⟨h.1, h.2.1, h.2.2.1, h.2.2.2⟩
theorem words_ok {l : Lw} (s : LwS l) : ∀ w ∈ wordsL l, WordOk w := by
  have k0 : WordOk l.kind := by rcases s.v.kind with h | h <;> (rw [h]; exact word_of (by decide))
  have k1 := word_mk (w := l.mark) (by have := s.v.m4; omega) s.mark
  have k2 := word_mk (w := l.close) (by have := s.v.c4; omega) s.close
  have k3 := word_mk (w := l.esc) (by rcases s.v.esc with h | ⟨c, h⟩ <;> simp [h]) s.esc
  have c1 : WordOk toC := word_of (by rw [to_eq]; decide)
  have c2 : WordOk lineC := word_of (by rw [line_eq]; decide)
  have c3 : WordOk nestedC := word_of (by rw [nested_eq]; decide)
  have c4 : WordOk escapeC := word_of (by rw [escape_eq]; decide)
  have c5 : WordOk doubledC := word_of (by rw [doubled_eq]; decide)
  have c6 : WordOk (digC l.deep) := by
    rcases deep_cases s.v with h | h | h | h
    · rw [h]; exact word_of (by decide +kernel)
    · rw [h, dig2]; exact word_of (by decide)
    · rw [h, dig3]; exact word_of (by decide)
    · rw [h, dig4]; exact word_of (by decide)
  intro x hx
  unfold wordsL at hx
  simp only [List.mem_append, List.mem_cons, List.not_mem_nil, or_false] at hx
  have two : ∀ (P : Prop) [Decidable P] (u v : List Nat), WordOk u → WordOk v → x ∈ (if P then [u, v] else []) → WordOk x := fun P _ u v hu hv h => by
    by_cases c : P
    · rw [if_pos c] at h; simp at h; rcases h with h | h <;> (rw [h]; assumption)
    · rw [if_neg c] at h; cases h
  have one : ∀ (P : Prop) [Decidable P] (u : List Nat), WordOk u → x ∈ (if P then [u] else []) → WordOk x := fun P _ u hu h => by
    by_cases c : P
    · rw [if_pos c] at h; simp at h; rw [h]; assumption
    · rw [if_neg c] at h; cases h
  rcases hx with ((((h | h | h | h) | h) | h) | h) | h
  · rw [h]; assumption
  · rw [h]; assumption
  · rw [h]; assumption
  · rw [h]; split <;> assumption
  · exact two _ _ _ c3 c6 h
  · exact two _ _ _ c4 k3 h
  · exact one _ _ c5 h
  · exact one _ _ c2 h
theorem words_len (l : Lw) : (wordsL l).length ≤ 10 := by
  unfold wordsL
  simp only [List.length_append]
  have : ∀ (P : Prop) [Decidable P] (x y : List Nat), (if P then [x, y] else []).length ≤ 2 := fun P _ x y => by split <;> simp
  have t1 := this (0 < l.deep) nestedC (digC l.deep)
  have t2 := this (l.esc ≠ []) escapeC l.esc
  have : ∀ (P : Prop) [Decidable P] (x : List Nat), (if P then [x] else []).length ≤ 1 := fun P _ x => by split <;> simp
  have t3 := this (l.dbl = true) doubledC
  have t4 := this (l.line = true) lineC
  simp only [List.length_cons, List.length_nil]
  omega
theorem ruleT_spl {l : Lw} (s : LwS l) : TL.spl [32] 0 [] (ruleT l) = wordsL l := TL.spl_join (by rw [words_rest]; simp) fun p hp => (words_ok s p hp).nb
theorem ruleT_line {l : Lw} (s : LwS l) : lineM (ruleT l) = some (toRl l) := by
  unfold lineM
  rw [ruleT_spl s, words_rest]
  simp only
  have hk : (decide (l.kind = remarkC) || decide (l.kind = quoteC)) = true := by rcases s.v.kind with h | h <;> simp [h]
  have hmk := mark_ok s.v.m1 s.v.m4 s.mark
  obtain ⟨w, hw⟩ : ∃ w : Wd, w = ⟨l.kind, l.mark, toC, if l.close ≠ [] then l.close else lineC, restL l⟩ := ⟨_, rfl⟩
  rw [← hw]
  have hh : w.headB = true := by unfold Wd.headB; rw [hw]; simp [hk, hmk]
  have hcl : w.cl = l.close := by
    unfold Wd.cl
    rw [hw]
    simp only
    by_cases c : l.close = []
    · rw [if_neg (show ¬ l.close ≠ [] by simp [c]), if_pos rfl, c]
    · rw [if_pos (show l.close ≠ [] from c), if_neg (not_line s.close)]
  unfold ruleM
  rw [if_pos hh, hcl]
  have ho : optsM w.r = some ⟨l.deep, l.esc, l.dbl, l.line⟩ := by rw [hw]; exact opts_rest s
  rw [ho]
  simp only
  rw [if_neg, if_neg, if_neg]
  · rw [hw]; rfl
  · rintro ⟨h1, h2⟩
    rcases s.v.deep with h | ⟨_, _, h3, h4, h5, h6⟩
    · omega
    · rw [hw] at h2
      rcases h2 with h2 | h2 | h2
      · exact h2 h3
      · exact h5 h2
      · rw [h6] at h2; cases h2
  · rintro ⟨h1, h2 | h2 | h2⟩
    · rcases s.v.deep with h | ⟨_, _, h3, h4, h5, h6⟩
      · omega
      · exact h4 h1
    · exact s.v.dblC h2 h1
    · exact s.v.lineC h2 h1
  · rintro ⟨h1, h2⟩
    rw [mark_ok (List.length_pos_iff.mpr h1) s.v.c4 s.close] at h2
    cases h2
end K02
end
section -- Q2B
set_option Elab.async false
set_option linter.all false
set_option maxRecDepth 100000
set_option maxHeartbeats 1000000
namespace K02
open PySem PySem.Spec L2 DL
variable {ga : Str → Addr}
theorem e_tinit (x : List Nat) (mu : List Own) (hx : x.length ≤ 100000) (ok : ∀ l ∈ linesM x, LineOk l) : match readM [] (linesM x) with
    | none => ∃ fs, F_Tongue___init__ ga [.str x] mu = .ok fs mu
    | some k => F_Tongue___init__ ga [.str x] mu = .exc (badE ga k) mu := by
  have p1 : ∀ a : D, putD "text" a [] = ([("text", a)] : List (Str × D)) := fun _ => rfl
  have p2 : ∀ a b : D, putD "rules" b [("text", a)] = ([("text", a), ("rules", b)] : List (Str × D)) := fun _ _ => rfl
  have p3 : ∀ a b c : D, putD "forms" c [("text", a), ("rules", b)] = ([("text", a), ("rules", b), ("forms", c)] : List (Str × D)) := fun _ _ _ => rfl
  have e1 := e_lines_of (ga := ga) x mu (by omega)
  have e2 := e_read_rules (ga := ga) (linesM x) mu ok
  have t1 : ∀ s, tupleD s [.lst ((linesM x).map D.str)] = some (.tup ((linesM x).map D.str)) := fun _ => rfl
  have f1 : ∀ a b : D, ∀ (L : Sl) (m : List Own), fldOf (ga "Tongue") "rules" ⟨[.own (.obj (ga "Tongue") [("text", a), ("rules", b)]), L], m⟩ (.loc 0) = some b := fun a b L m => by
    show (if ga "Tongue" = ga "Tongue" then _ else _) = _
    rw [if_pos rfl]; rfl
  cases hq : readM [] (linesM x) with
  | none =>
    rw [hq] at e2
    obtain ⟨rs, e2⟩ := e2
    refine ⟨[("text", .str x), ("rules", .tup ((linesM x).map D.str)), ("forms", .lst (rs.map (encR ga)))], ?_⟩
    unfold F_Tongue___init__ runI m_Tongue___init__
    simp -implicitDefEqProofs -dsimp [finI, p1, p2, p3, e1, e2, t1, f1]
  | some k =>
    rw [hq] at e2
    have e2 : F_read_rules ga [.tup ((linesM x).map D.str)] mu = .exc (badE ga k) mu := e2
    show F_Tongue___init__ ga [.str x] mu = _
    unfold F_Tongue___init__ runI m_Tongue___init__
    simp -implicitDefEqProofs -dsimp [finI, p1, p2, p3, e1, e2, t1, f1]
/-- lines whose text reads as these lines -/
structure LinesOk (ls : List (List Nat)) : Prop where
  len : ls.length ≤ 100
  all : ∀ l ∈ ls, LineOk l ∧ l.length ≤ 200 ∧ 10 ∉ l
  ne : ls ≠ [[]]
def toldM (ls : List (List Nat)) : Int := match readM [] ls with | none => 0 | some k => (k : Int)
theorem lines_back {ls : List (List Nat)} (h : LinesOk ls) : linesM (TL.joinL [10] ls) = ls := by
  unfold linesM
  cases ls with
  | nil => rfl
  | cons l ls =>
    rw [if_neg]
    · exact TL.spl_join (by simp) fun p hp => (h.all p hp).2.2
    · intro z
      cases ls with
      | nil => exact h.ne (by rw [show l = [] from z])
      | cons m ls =>
        rw [TL.joinL] at z
        have := (List.append_eq_nil_iff.mp z).2
        simp at this
theorem e_told (ls : List (List Nat)) (mu : List Own) (h : LinesOk ls) : F__law_told ga [.lst (ls.map D.str)] mu = .ok (.int (toldM ls)) mu := by
  have hz : (100000 : Nat) ≤ sizeLine := by decide
  have h1 := joinL_len [10] ls
  have h2 := sum_le (ys := ls) (b := 200) fun w hw => (h.all w hw).2.1
  have hl := h.len
  have len : (TL.joinL [10] ls).length ≤ 100000 := by
    simp only [List.length_cons, List.length_nil] at h1
    omega
  have ti := e_tinit (ga := ga) (TL.joinL [10] ls) mu len (by rw [lines_back h]; exact fun l hl => (h.all l hl).1)
  rw [lines_back h] at ti
  have hj : ∀ s, joinD s [10] (.lst (ls.map D.str)) = some (.str (TL.joinL [10] ls)) := fun s' => join_any rfl (by
    simp only [List.length_cons, List.length_nil] at h2 ⊢
    omega)
  have hm : m__law_told ga = sq (tryM (ga "BadTongue") 1 (dropM (makeM (ga "Tongue") 1 (F_Tongue___init__ ga) [] (aCons (sm1 joinD (mret (D.str (cs "\n"))) (vr 0)) aNil))) (fun a1 y1 => (sq (asgM (andV (isxM a1 true (vr 1)) (andV (isxM a1 true (vr 1)) (notV (isxM a1 false (vr 1))))) (gN 2)) (retM (ifD (tstD (vr 2)) (exfM a1 y1 "line" (vr 1)) (negD (mret (D.int 1)))))))) (retM (mret (D.int 0))) := rfl
  have hb : begS 3 [.lst (ls.map D.str)] = [.dat (.lst (ls.map D.str)), .non, .non] := rfl
  unfold F__law_told toldM
  rw [x_runB, hb, hm, x_sq]
  cases hq : readM [] ls with
  | none =>
    rw [hq] at ti
    obtain ⟨fs, ti⟩ := ti
    have hd : dropM (makeM (ga "Tongue") 1 (F_Tongue___init__ ga) [] (aCons (sm1 joinD (mret (D.str (cs "\n"))) (vr 0)) aNil)) ⟨[.dat (.lst (ls.map D.str)), .non, .non], mu⟩ = .ok .nx ⟨[.dat (.lst (ls.map D.str)), .non, .non], mu⟩ := by
      simp -implicitDefEqProofs -dsimp [hj, ti]
    rw [tryM_ok hd]
    simp -implicitDefEqProofs -dsimp
  | some k =>
    rw [hq] at ti
    have ti : F_Tongue___init__ ga [.str (TL.joinL [10] ls)] mu = .exc (badE ga k) mu := ti
    have hd : dropM (makeM (ga "Tongue") 1 (F_Tongue___init__ ga) [] (aCons (sm1 joinD (mret (D.str (cs "\n"))) (vr 0)) aNil)) ⟨[.dat (.lst (ls.map D.str)), .non, .non], mu⟩ = .exc (badE ga k) ⟨[.dat (.lst (ls.map D.str)), .non, .non], mu⟩ := by
      simp -implicitDefEqProofs -dsimp [hj, ti]
    rw [tryM_exc hd (r := .ok (.rt (.int (k : Int))) ⟨[.dat (.lst (ls.map D.str)), .non, .dat (.bl true)], mu⟩) fun a => ?_]
    · simp only [R.bind_ok]
    · have e1 : ∀ (c : Bool) (s : S), s.sl[1]? = some (.dat (.fn a)) → isxM a c (vr 1) s = .ok (.bl c) s := fun c s h => by
        unfold isxM mb vr
        rw [h]
        simp only [R.bind_ok]
        unfold mopt
        simp only [if_pos]
      have e2 : ∀ (s : S), s.sl[1]? = some (.dat (.fn a)) → exfM a ⟨.ref (ga "BadTongue"), [("line", .int (k : Int))]⟩ "line" (vr 1) s = .ok (.int (k : Int)) s := fun s h => by
        unfold exfM mb vr
        rw [h]
        simp only [R.bind_ok]
        unfold mopt
        simp only [if_pos]
        rfl
      show clR 1 (sq _ _ ⟨[.dat (.lst (ls.map D.str)), .dat (.fn a), .non], mu⟩) = _
      simp -implicitDefEqProofs -dsimp [e1, e2]
      first | done | rfl
end K02
end
section -- SE
set_option Elab.async false
set_option linter.all false
set_option maxRecDepth 100000
set_option maxHeartbeats 1000000
/-! Text expressions: what is put together of written texts and names, all at once. -/
namespace DL
open PySem PySem.Spec L2
inductive SE where
  | lit (x : Str) | var (i : Nat) | add (a b : SE) | cut (i n : Nat) | rep (c : Str) (n : Nat) | hd (i : Nat)
def SE.den : SE → M D
  | .lit x => mret (D.str (cs x))
  | .var i => vr i
  | .add a b => binD addA a.den b.den
  | .cut i n => slM slcD (vr i) noP (someP (mret (D.int (n : Int))))
  | .rep c n => binD mulA (mret (D.str (cs c))) (mret (D.int (n : Int)))
  | .hd i => binD ixD (vr i) (mret (D.int 0))
def SE.val (env : Nat → List Nat) : SE → List Nat
  | .lit x => cs x
  | .var i => env i
  | .add a b => a.val env ++ b.val env
  | .cut i n => (env i).take n
  | .rep c n => List.replicate n ((cs c).headD 0)
  | .hd i => (env i).take 1
/-- how long at most; names hold texts of at most 1000 signs -/
def SE.lb : SE → Nat
  | .lit x => (cs x).length
  | .var _ => 1000
  | .add a b => a.lb + b.lb
  | .cut _ _ => 1000
  | .rep _ n => n
  | .hd _ => 1
/-- the names that are read, and whether all is as it must be -/
def SE.ok : SE → Bool
  | .lit _ => true
  | .var _ => true
  | .add a b => a.ok && b.ok
  | .cut _ _ => true
  | .rep c n => decide ((cs c).length = 1) && decide (n ≤ 1000)
  | .hd _ => true
def SE.vs : SE → List Nat
  | .lit _ => []
  | .var i => [i]
  | .add a b => a.vs ++ b.vs
  | .cut i _ => [i]
  | .rep _ _ => []
  | .hd i => [i]
/-- the slots hold the texts -/
def Holds (s : S) (env : Nat → List Nat) (is : List Nat) : Prop := ∀ i ∈ is, s.sl[i]? = some (.dat (.str (env i))) ∧ (env i).length ≤ 1000 ∧ env i ≠ []
theorem SE.val_len {env : Nat → List Nat} {s : S} : ∀ {e : SE}, Holds s env e.vs → (e.val env).length ≤ e.lb
  | .lit _, _ => Nat.le_refl _
  | .var i, h => (h i (by simp [SE.vs])).2.1
  | .add a b, h => by
    have h1 := SE.val_len (e := a) (fun i hi => h i (by simp [SE.vs, hi]))
    have h2 := SE.val_len (e := b) (fun i hi => h i (by simp [SE.vs, hi]))
    simp only [SE.val, SE.lb, List.length_append]
    omega
  | .cut i n, h => by
    have := (h i (by simp [SE.vs])).2.1
    simp only [SE.val, SE.lb, List.length_take]
    omega
  | .rep _ n, _ => by simp [SE.val, SE.lb]
  | .hd i, h => by
    simp only [SE.val, SE.lb, List.length_take]
    omega
theorem vr_holds {s : S} {env : Nat → List Nat} {i : Nat} (h : s.sl[i]? = some (.dat (.str (env i)))) : vr i s = .ok (.str (env i)) s := by
  unfold vr
  rw [h]
theorem szl : (1000000 : Nat) ≤ sizeLine := by decide
theorem sz_add {a b c d : Nat} (h : a ≤ c) (k : b ≤ d) (l : c + d ≤ 1000000) : a + b ≤ sizeLine := Nat.le_trans (Nat.le_trans (Nat.add_le_add h k) l) szl
theorem sz_k {a : Nat} (h : a ≤ 1000) : a ≤ sizeLine := Nat.le_trans (Nat.le_trans h (by decide : 1000 ≤ 1000000)) szl
section
variable {s : S} {env : Nat → List Nat}
theorem se_add {a b : SE} (e1 : a.den s = .ok (.str (a.val env)) s) (e2 : b.den s = .ok (.str (b.val env)) s) (l : (a.val env).length + (b.val env).length ≤ sizeLine) : (SE.add a b).den s = .ok (.str ((SE.add a b).val env)) s := by
  simp only [SE.den, x_binD, e1, R.bind_ok, e2, addA_str, SE.val]
  rw [if_pos l]
  rfl
theorem se_cut {i n : Nat} (h1 : s.sl[i]? = some (.dat (.str (env i)))) (h2 : (env i).length ≤ sizeLine) : (SE.cut i n).den s = .ok (.str ((SE.cut i n).val env)) s := by
  have e : slcD s (.str (env i)) none (some (n : Int)) = some (.str ((env i).take n)) := by
    show (if (env i).length ≤ sizeLine then some (D.str (cutN (env i) none (some (n : Int)))) else none) = _
    rw [if_pos h2, cut_to]
  simp only [SE.den, x_slM, vr_holds h1, R.bind_ok, x_noP, x_someP]
  show (mo (slcD s (.str (env i)) none (some (n : Int))) s) = _
  rw [e]
  rfl
theorem se_rep0 (a : List Nat) (b : Int) : binD mulA (mret (D.str a)) (mret (D.int b)) s = mo (mulA s (.str a) (.int b)) s := rfl
theorem se_rep {c : Str} {n x : Nat} (hx : cs c = [x]) (h : mulA s (.str [x]) (.int (n : Int)) = some (.str (List.replicate n x))) : (SE.rep c n).den s = .ok (.str ((SE.rep c n).val env)) s := by
  unfold SE.den SE.val
  rw [se_rep0, hx, h]
  unfold mo List.headD
  exact rfl
theorem se_hd {i : Nat} (h1 : s.sl[i]? = some (.dat (.str (env i)))) (h2 : (env i).length ≤ sizeLine) (h3 : env i ≠ []) : (SE.hd i).den s = .ok (.str ((SE.hd i).val env)) s := by
  have e : ixD s (.str (env i)) (.int 0) = some (.str ((env i).take 1)) := by
    show (if (env i).length ≤ sizeLine then ((ixN (env i).length 0).bind fun j => (env i)[j]?).map fun c => D.str [c] else none) = _
    rw [if_pos h2]
    cases q : env i with
    | nil => exact absurd q h3
    | cons a r => simp [ixN]
  simp only [SE.den, x_binD, vr_holds h1, R.bind_ok]
  show mo (ixD s (.str (env i)) (.int 0)) s = _
  rw [e]
  rfl
theorem e_se (e : SE) : Holds s env e.vs → e.ok = true → e.lb ≤ 1000000 → e.den s = .ok (.str (e.val env)) s := by
  induction e with
  | lit _ => exact fun _ _ _ => rfl
  | var i => exact fun h _ _ => vr_holds (h i (by simp [SE.vs])).1
  | add a b iha ihb =>
    intro h o l
    obtain ⟨o1, o2⟩ := He.ba o
    have ha : Holds s env a.vs := fun i hi => h i (by simp [SE.vs, hi])
    have hb : Holds s env b.vs := fun i hi => h i (by simp [SE.vs, hi])
    have l : a.lb + b.lb ≤ 1000000 := l
    exact se_add (iha ha o1 (Nat.le_trans (Nat.le_add_right _ _) l)) (ihb hb o2 (Nat.le_trans (Nat.le_add_left _ _) l)) (sz_add (SE.val_len ha) (SE.val_len hb) l)
  | cut i n =>
    intro h _ _
    obtain ⟨h1, h2, _⟩ := h i (by simp [SE.vs])
    exact se_cut h1 (sz_k h2)
  | rep c n =>
    intro _ o _
    obtain ⟨o1, o2⟩ := He.ba o
    obtain ⟨x, hx⟩ := List.length_eq_one_iff.mp (of_decide_eq_true o1)
    exact se_rep hx (mul_one (Nat.le_trans (of_decide_eq_true o2) (by decide)))
  | hd i =>
    intro h _ _
    obtain ⟨h1, h2, h3⟩ := h i (by simp [SE.vs])
    exact se_hd h1 (sz_k h2) h3
end
def argsS : List SE → M (List D)
  | [] => aNil
  | e :: es => aCons e.den (argsS es)
structure SesOk (s : S) (env : Nat → List Nat) (es : List SE) : Prop where
  ok : es.all (fun e => e.ok && decide (e.lb ≤ 1000000)) = true
  hs : ∀ e ∈ es, Holds s env e.vs
  len : es.length ≤ 1000
theorem e_args {s : S} {env : Nat → List Nat} : ∀ (es : List SE), es.all (fun e => e.ok && decide (e.lb ≤ 1000000)) = true → (∀ e ∈ es, Holds s env e.vs) → argsS es s = .ok ((es.map (SE.val env)).map D.str) s
  | [], _, _ => rfl
  | e :: es, o, h => by
    rw [List.all_cons] at o
    obtain ⟨o1, o2⟩ := He.ba o
    obtain ⟨o3, o4⟩ := He.ba o1
    have e1 := e_se e (h e (by simp)) o3 (of_decide_eq_true o4)
    have e2 := e_args es o2 fun x hx => h x (by simp [hx])
    simp only [argsS, x_aCons, e1, R.bind_ok, e2, List.map_cons]
theorem fzs_strs (s : S) : ∀ xs : List (List Nat), fzs (xs.map D.str) s = .ok (xs.map D.str) s
  | [] => rfl
  | x :: xs => by
    have ih := fzs_strs s xs
    simp only [List.map_cons, fzs, mb]
    show ((fz (.str x) s).bind fun d => mb (fzs (xs.map D.str)) fun ys => mret (d :: ys)) = _
    show (mb (fzs (xs.map D.str)) fun ys => mret (D.str x :: ys)) s = _
    unfold mb
    rw [ih]
    rfl
/-- a display of texts -/
theorem e_lstS {s : S} {env : Nat → List Nat} {es : List SE} (h : SesOk s env es) : lstM (argsS es) s = .ok (.lst ((es.map (SE.val env)).map D.str)) s := by
  have hl := h.len
  rw [x_lstM, e_args es h.ok h.hs]
  simp only [R.bind_ok]
  rw [fzs_strs]
  simp only [R.bind_ok]
  rw [if_pos (by simp only [List.length_map]; exact sz_k hl)]
/-- found = found + [..], found owned -/
theorem e_addS {s : S} {env : Nat → List Nat} {es : List SE} {i : Nat} {acc : List (List Nat)} (hi : s.sl[i]? = some (.own (.lst (acc.map D.str)))) (hl : acc.length ≤ 10000) (h : SesOk s env es) :
    setO i (addF (vr i) (frz (lstM (argsS es)))) s = .ok .nx { s with sl := s.sl.set i (.own (.lst ((acc ++ es.map (SE.val env)).map D.str))) } := by
  have hl2 := h.len
  have e1 : vr i s = .ok (.loc i) s := by unfold vr; rw [hi]
  have e2 := e_lstS h
  have r1 : rdL s (.loc i) = some (acc.map D.str) := by
    unfold rdL dr
    simp only
    rw [hi]
  have r2 : rdL s (.lst ((es.map (SE.val env)).map D.str)) = some ((es.map (SE.val env)).map D.str) := rfl
  unfold setO addF mb mopt
  rw [e1]
  simp only [R.bind_ok, x_frz, e2, Own.dat, r1, r2]
  rw [if_pos (by simp only [List.length_map]; exact sz_add hl hl2 (by decide)), List.map_append]
  rfl
end DL
end
section -- Q2C
set_option Elab.async false
set_option linter.all false
set_option maxRecDepth 100000
set_option maxHeartbeats 1000000
namespace K02
open PySem PySem.Spec L2 DL
variable {ga : Str → Addr}
def w1 : List SE := [(.lit ""), (.lit " "), (.lit "remark"), (.add (.lit "remark ") (.var 0)), (.add (.add (.lit "remark ") (.var 0)) (.lit " to")), (.add (.add (.lit "remark ") (.var 0)) (.lit " in line"))]
def w2 : List SE := [(.add (.add (.lit "Remark ") (.var 0)) (.lit " to line")), (.add (.add (.lit "code ") (.var 0)) (.lit " to line")), (.lit "remark a to line"), (.lit "remark to line")]
def w3 : List SE := [(.add (.add (.lit "remark ") (.var 0)) (.lit " to a")), (.add (.add (.add (.lit "remark ") (.var 0)) (.lit " to ")) (.rep "?" 5)), (.add (.add (.lit "quote ") (.rep "?" 5)) (.lit " to line"))]
def w4 : List SE := [(.lit "quote _ to line"), (.add (.add (.lit "quote ") (.var 0)) (.lit " to _")), (.add (.add (.lit "quote ") (.var 0)) (.lit " to line ")), (.add (.lit " ") (.var 2))]
def w5 : List SE := [(.lit "remark 1 to line"), (.lit "remark A to line"), (.add (.add (.lit "remark ") (.cut 0 3)) (.lit "a to line"))]
def w6l : List Str := ["1", "_", "Z"]
def w6 : SE := (.add (.add (.add (.add (.lit "quote ") (.var 0)) (.lit " to ")) (.cut 1 3)) (.var 5))
def w7 : List SE := [(.add (.add (.lit "remark  ") (.var 0)) (.lit " to line")), (.add (.add (.lit "remark ") (.var 0)) (.lit " to  line")), (.add (.add (.lit "remark ") (.var 0)) (.lit " to Line"))]
def w8l : List Str := ["line", "doubled", "nested 2", "escape", "escape ! line", "escape ! doubled", "nested 2 escape !"]
def w8 : SE := (.add (.add (.add (.lit "remark ") (.var 0)) (.lit " to line ")) (.var 4))
def w9 : List SE := [(.add (.add (.add (.add (.lit "remark ") (.var 0)) (.lit " to ")) (.var 0)) (.lit " nested 2")), (.add (.add (.add (.add (.lit "quote ") (.var 0)) (.lit " to ")) (.var 1)) (.lit " nested 2"))]
def w10l : List Str := ["nested", "nested 1", "nested 5", "nested 02", "nested two", "nested 2 doubled", "doubled nested 2"]
def w10 : SE := (.add (.add (.var 2) (.lit " ")) (.var 4))
def w11l : List Str := ["escape", "escape !!", "escape a", "escape _", "escape 1", "escape Z"]
def w11 : SE := (.add (.add (.var 2) (.lit " ")) (.var 4))
def w12 : List SE := [(.add (.var 2) (.lit " line escape !")), (.add (.var 2) (.lit " doubled escape !"))]
def w13l : List Str := ["line line", "doubled doubled", "line doubled", "escape ! escape !", "nested 2 nested 2", "open"]
def w13 : SE := (.add (.add (.var 2) (.lit " ")) (.var 4))
def w14 : List SE := [(.add (.var 2) (.lit " line ")), (.add (.var 2) (.lit "  line")), (.add (.var 2) (.lit " nested 2 escape ! doubled line")), (.add (.add (.var 0) (.lit " to ")) (.var 1))]
/-- for option in lits: found.append(e) -/
def wFor (ls : List Str) (e : SE) : M Fl := forM' (anyI (frz (lstM (argsS (ls.map SE.lit))))) (gN 4) (dropM (apM (vr 3) (aCons e.den aNil)))
/-- found = found + [e for last in lits] -/
def wCom (ls : List Str) (e : SE) : M Fl := setO 3 (addF (vr 3) (frz (lcM (anyI (frz (lstM (argsS (ls.map SE.lit))))) [5] (gN 5) yesM e.den)))
def wPair : SE := .add (.add (.add (.lit "remark ") (.var 0)) (.lit " to ")) (.var 1)
def wlM : M Fl := (sq (asgM wPair.den (gN 2)) (sq (setO 3 (lstM (argsS w1))) (sq (setO 3 (addF (vr 3) (frz (lstM (argsS w2))))) (sq (setO 3 (addF (vr 3) (frz (lstM (argsS w3))))) (sq (setO 3 (addF (vr 3) (frz (lstM (argsS w4))))) (sq (setO 3 (addF (vr 3) (frz (lstM (argsS w5))))) (sq (wCom w6l w6) (sq (setO 3 (addF (vr 3) (frz (lstM (argsS w7))))) (sq (wFor w8l w8) (sq (setO 3 (addF (vr 3) (frz (lstM (argsS w9))))) (sq (wFor w10l w10) (sq (wFor w11l w11) (sq (setO 3 (addF (vr 3) (frz (lstM (argsS w12))))) (sq (wFor w13l w13) (retM (binD addA (vr 3) (frz (lstM (argsS w14)))))))))))))))))))
theorem wl_eq : m__law_wrong_lines ga = wlM := rfl
def envW (one two pr o l : List Nat) : Nat → List Nat
  | 0 => one
  | 1 => two
  | 2 => pr
  | 4 => o
  | 5 => l
  | _ => []
def stL (one two pr : List Nat) (acc : List (List Nat)) (z4 z5 : Sl) (mu : List Own) : S := ⟨[.dat (.str one), .dat (.str two), .dat (.str pr), .own (.lst (acc.map D.str)), z4, z5], mu⟩
structure W3 (one two pr : List Nat) : Prop where
  h0 : one.length ≤ 1000 ∧ one ≠ []
  h1 : two.length ≤ 1000 ∧ two ≠ []
  h2 : pr.length ≤ 1000 ∧ pr ≠ []
section
variable {one two pr o l : List Nat} {acc : List (List Nat)} {z4 z5 : Sl} {mu : List Own}
theorem holdsW {is : List Nat} (w : W3 one two pr) (h : ∀ i ∈ is, i < 3) : Holds (stL one two pr acc z4 z5 mu) (envW one two pr o l) is := fun i hi => by
  match i, h i hi with
  | 0, _ => exact ⟨rfl, w.h0⟩
  | 1, _ => exact ⟨rfl, w.h1⟩
  | 2, _ => exact ⟨rfl, w.h2⟩
theorem holdsW4 {is : List Nat} (w : W3 one two pr) (ho : o.length ≤ 1000 ∧ o ≠ []) (h : ∀ i ∈ is, i < 3 ∨ i = 4) : Holds (stL one two pr acc (.dat (.str o)) z5 mu) (envW one two pr o l) is := fun i hi => by
  rcases h i hi with h | h
  · exact holdsW w (is := [i]) (by simpa using h) i (by simp)
  · subst h
    exact ⟨rfl, ho⟩
theorem e_wAdd (w : W3 one two pr) (es : List SE) (ok : es.all (fun e => e.ok && decide (e.lb ≤ 1000000)) = true) (hv : es.all (fun e => e.vs.all fun i => decide (i < 3)) = true) (hn : es.length ≤ 1000) (ha : acc.length ≤ 10000) :
    setO 3 (addF (vr 3) (frz (lstM (argsS es)))) (stL one two pr acc z4 z5 mu) = .ok .nx (stL one two pr (acc ++ es.map (SE.val (envW one two pr o l))) z4 z5 mu) :=
  e_addS rfl ha ⟨ok, fun e he => holdsW w fun i hi => of_decide_eq_true (List.all_eq_true.mp (List.all_eq_true.mp hv e he) i hi), hn⟩
theorem lits_all {ls : List Str} (h : ls.all (fun x => decide ((cs x).length ≤ 1000)) = true) : (ls.map SE.lit).all (fun e => e.ok && decide (e.lb ≤ 1000000)) = true := by
  rw [List.all_eq_true]
  intro e he
  obtain ⟨x, hx, rfl⟩ := List.mem_map.mp he
  have := of_decide_eq_true (List.all_eq_true.mp h x hx)
  show (true && decide ((cs x).length ≤ 1000000)) = true
  rw [Bool.true_and, decide_eq_true_eq]
  exact Nat.le_trans this (by decide)
theorem e_lits {s : S} (ls : List Str) (h : ls.all (fun x => decide ((cs x).length ≤ 1000)) = true) (hn : ls.length ≤ 1000) : anyI (frz (lstM (argsS (ls.map SE.lit)))) s = .ok ((ls.map cs).map D.str) s := by
  have e := e_lstS (s := s) (env := fun _ => []) (es := ls.map SE.lit) ⟨lits_all h, fun e he => by
    obtain ⟨x, hx, rfl⟩ := List.mem_map.mp he
    exact fun i hi => (nomatch hi), by simpa using hn⟩
  rw [x_anyI_str, x_frz, e]
  simp only [R.bind_ok, Own.dat]
  have e2 : (ls.map SE.lit).map (SE.val fun _ => []) = ls.map cs := by rw [List.map_map]; rfl
  rw [e2]
  rfl
theorem e_wLoop (w : W3 one two pr) (e : SE) (ok : e.ok = true) (lb : e.lb ≤ 1000000) (hv : e.vs.all (fun i => decide (i < 3 ∨ i = 4)) = true) : ∀ (ws : List (List Nat)) (acc : List (List Nat)) (z4 : Sl), (∀ x ∈ ws, x.length ≤ 1000 ∧ x ≠ []) → acc.length + ws.length ≤ 10000 →
    ∃ y4, loopD (gN 4) (dropM (apM (vr 3) (aCons e.den aNil))) (ws.map D.str) (stL one two pr acc z4 z5 mu) = .ok .nx (stL one two pr (acc ++ ws.map fun x => e.val (envW one two pr x l)) y4 z5 mu)
  | [], acc, z4, _, _ => ⟨z4, by rw [List.map_nil, List.map_nil, List.append_nil]; rfl⟩
  | x :: ws, acc, z4, hx, hl => by
    have l' : acc.length + (ws.length + 1) ≤ 10000 := hl
    obtain ⟨y4, ih⟩ := e_wLoop w e ok lb hv ws (acc ++ [e.val (envW one two pr x l)]) (.dat (.str x)) (fun y hy => hx y (by simp [hy])) (by simp; omega)
    refine ⟨y4, ?_⟩
    have hs : Holds (stL one two pr acc (.dat (.str x)) z5 mu) (envW one two pr x l) e.vs := holdsW4 w (hx x (by simp)) fun i hi => of_decide_eq_true (List.all_eq_true.mp hv i hi)
    have ev := e_se e hs ok lb
    have body : dropM (apM (vr 3) (aCons e.den aNil)) (stL one two pr acc (.dat (.str x)) z5 mu) = .ok .nx (stL one two pr (acc ++ [e.val (envW one two pr x l)]) (.dat (.str x)) z5 mu) := by
      have v3 : vr 3 (stL one two pr acc (.dat (.str x)) z5 mu) = .ok (.loc 3) (stL one two pr acc (.dat (.str x)) z5 mu) := rfl
      have r3 : rdL (stL one two pr acc (.dat (.str x)) z5 mu) (.loc 3) = some (acc.map D.str) := rfl
      have hz : acc.length < sizeLine := Nat.lt_of_lt_of_le (Nat.lt_of_le_of_lt (by omega : acc.length ≤ 10000) (by decide : 10000 < 1000000)) szl
      rw [x_dropM, x_apM, v3]
      simp only [R.bind_ok, r3, mo, x_aCons, ev]
      have z : ∀ s : S, aNil s = .ok [] s := fun _ => rfl
      simp only [z, R.bind_ok]
      have f1 : ∀ s, fzs [D.str (e.val (envW one two pr x l))] s = .ok [D.str (e.val (envW one two pr x l))] s := fun _ => rfl
      simp only [f1, R.bind_ok]
      have ap : apE (.loc 3) [D.str (e.val (envW one two pr x l))] (stL one two pr acc (.dat (.str x)) z5 mu) = .ok .non (stL one two pr (acc ++ [e.val (envW one two pr x l)]) (.dat (.str x)) z5 mu) := by
        rw [x_apE]
        show (if (acc.map D.str).length < sizeLine then _ else _) = _
        rw [if_pos (by rw [List.length_map]; exact hz)]
        unfold stL
        rw [List.map_append]
        rfl
      rw [ap]
      rfl
    rw [List.map_cons, x_loop_cons]
    have g : gN 4 (.str x) (stL one two pr acc z4 z5 mu) = some (stL one two pr acc (.dat (.str x)) z5 mu) := rfl
    rw [g]
    simp only
    rw [body]
    simp only [R.bind_ok]
    rw [ih, List.map_cons, List.append_assoc]
    rfl
theorem e_wFor (w : W3 one two pr) (ls : List Str) (e : SE) (ok : e.ok = true) (lb : e.lb ≤ 1000000) (hv : e.vs.all (fun i => decide (i < 3 ∨ i = 4)) = true) (hl : ls.all (fun x => decide ((cs x).length ≤ 1000 ∧ cs x ≠ [])) = true) (hn : ls.length ≤ 1000) (ha : acc.length ≤ 5000) :
    ∃ y4, wFor ls e (stL one two pr acc z4 z5 mu) = .ok .nx (stL one two pr (acc ++ (ls.map cs).map fun x => e.val (envW one two pr x l)) y4 z5 mu) := by
  have h1 : ls.all (fun x => decide ((cs x).length ≤ 1000)) = true := by
    rw [List.all_eq_true] at hl ⊢
    intro x hx
    have := of_decide_eq_true (hl x hx)
    exact decide_eq_true this.1
  have h2 : ∀ x ∈ ls.map cs, x.length ≤ 1000 ∧ x ≠ [] := fun x hx => by
    obtain ⟨y, hy, rfl⟩ := List.mem_map.mp hx
    exact of_decide_eq_true (List.all_eq_true.mp hl y hy)
  obtain ⟨y4, el⟩ := e_wLoop (l := l) (z5 := z5) (mu := mu) w e ok lb hv (ls.map cs) acc z4 h2 (by rw [List.length_map]; omega)
  refine ⟨y4, ?_⟩
  unfold wFor
  rw [x_for, e_lits ls h1 hn]
  simp only [R.bind_ok]
  exact el
theorem e_wCom (w : W3 one two pr) (ls : List Str) (e : SE) (ok : e.ok = true) (lb : e.lb ≤ 1000000) (hv : e.vs.all (fun i => decide (i < 3 ∨ i = 5)) = true) (hl : ls.all (fun x => decide ((cs x).length ≤ 1000 ∧ cs x ≠ [])) = true) (hn : ls.length ≤ 1000) (ha : acc.length ≤ 5000) :
    wCom ls e (stL one two pr acc z4 z5 mu) = .ok .nx (stL one two pr (acc ++ (ls.map cs).map fun x => e.val (envW one two pr o x)) z4 z5 mu) := by
  have h1 : ls.all (fun x => decide ((cs x).length ≤ 1000)) = true := by
    rw [List.all_eq_true] at hl ⊢
    intro x hx
    have := of_decide_eq_true (hl x hx)
    exact decide_eq_true this.1
  have hlc : ∀ bs : List Sl, bs = blkS [.dat (.str one), .dat (.str two), .dat (.str pr), .own (.lst (acc.map D.str)), z4, z5] [5] → lcLoop bs (gN 5) yesM e.den ((ls.map cs).map D.str) [] mu = .ok (((ls.map cs).map fun x => e.val (envW one two pr o x)).map D.str) ⟨bs, mu⟩ := fun bs hb => by
    rw [lc_al D.str (ls.map cs) (fun x => D.str (e.val (envW one two pr o x))) rfl]
    · rw [List.nil_append, List.map_map (f := fun x => e.val (envW one two pr o x))]
      rfl
    · intro x hx
      obtain ⟨y, hy, rfl⟩ := List.mem_map.mp hx
      have hx := of_decide_eq_true (List.all_eq_true.mp hl y hy)
      have hs : Holds ⟨bs.set 5 (.dat (.str (cs y))), mu⟩ (envW one two pr o (cs y)) e.vs := fun i hi => by
        subst hb
        rcases of_decide_eq_true (List.all_eq_true.mp hv i hi) with h | h
        · match i, h with
          | 0, _ => exact ⟨rfl, w.h0⟩
          | 1, _ => exact ⟨rfl, w.h1⟩
          | 2, _ => exact ⟨rfl, w.h2⟩
        · subst h
          exact ⟨rfl, hx⟩
      have ev := e_se e hs ok lb
      refine ⟨⟨bs.set 5 (.dat (.str (cs y))), mu⟩, ⟨bs.set 5 (.dat (.str (cs y))), mu⟩, rfl, rfl, ?_, rfl⟩
      unfold mb
      rw [ev]
      rfl
    · rw [List.length_map, List.length_nil, Nat.zero_add]
      exact sz_k hn
  unfold wCom setO addF mb mopt
  have v3 : vr 3 (stL one two pr acc z4 z5 mu) = .ok (.loc 3) (stL one two pr acc z4 z5 mu) := rfl
  have r3 : rdL (stL one two pr acc z4 z5 mu) (.loc 3) = some (acc.map D.str) := rfl
  have lcm : lcM (anyI (frz (lstM (argsS (ls.map SE.lit))))) [5] (gN 5) yesM e.den (stL one two pr acc z4 z5 mu) = .ok (.lst (((ls.map cs).map fun x => e.val (envW one two pr o x)).map D.str)) (stL one two pr acc z4 z5 mu) := by
    rw [x_lcM, e_lits ls h1 hn]
    simp only [R.bind_ok]
    have := hlc _ rfl
    unfold stL
    simp only
    rw [this]
  rw [v3]
  simp only [R.bind_ok, x_frz, lcm, Own.dat, r3]
  have r2 : rdL (stL one two pr acc z4 z5 mu) (.lst (((ls.map cs).map fun x => e.val (envW one two pr o x)).map D.str)) = some (((ls.map cs).map fun x => e.val (envW one two pr o x)).map D.str) := rfl
  rw [r2]
  simp only
  rw [if_pos (by simp only [List.length_map]; exact sz_add (Nat.le_trans ha (by decide : 5000 ≤ 10000)) hn (by decide))]
  unfold stL
  rw [List.map_append]
  rfl
end
end K02
end
section -- Q2D
set_option Elab.async false
set_option linter.all false
set_option maxRecDepth 100000
set_option maxHeartbeats 1000000
namespace K02
open PySem PySem.Spec L2 DL
variable {ga : Str → Addr}
def prL (one two : List Nat) : List Nat := wPair.val (envW one two [] [] [])
def vW (one two : List Nat) (es : List SE) : List (List Nat) := es.map (SE.val (envW one two (prL one two) [] []))
def v4 (one two : List Nat) (ls : List Str) (e : SE) : List (List Nat) := (ls.map cs).map fun x => e.val (envW one two (prL one two) x [])
def v5 (one two : List Nat) (ls : List Str) (e : SE) : List (List Nat) := (ls.map cs).map fun x => e.val (envW one two (prL one two) [] x)
def wr1 (one two : List Nat) : List (List Nat) := vW one two w1 ++ vW one two w2 ++ vW one two w3 ++ vW one two w4 ++ vW one two w5 ++ v5 one two w6l w6 ++ vW one two w7
def wr2 (one two : List Nat) : List (List Nat) := wr1 one two ++ v4 one two w8l w8 ++ vW one two w9 ++ v4 one two w10l w10 ++ v4 one two w11l w11 ++ vW one two w12 ++ v4 one two w13l w13
def wrongL (one two : List Nat) : List (List Nat) := wr2 one two ++ vW one two w14
structure M4 (m : List Nat) : Prop where
  le : m.length ≤ 4
  ne : m ≠ []
theorem pr_len {one two : List Nat} (h1 : M4 one) (h2 : M4 two) : (prL one two).length ≤ 1000 ∧ prL one two ≠ [] := by
  have e : prL one two = cs "remark " ++ one ++ cs " to " ++ two := rfl
  have l1 := h1.le
  have l2 := h2.le
  have c1 : (cs "remark ").length = 7 := by decide +kernel
  have c2 : (cs " to ").length = 4 := by decide +kernel
  constructor
  · rw [e]
    simp only [List.length_append, c1, c2]
    omega
  · intro z
    have := congrArg List.length z
    rw [e] at this
    simp only [List.length_append, c1, c2, List.length_nil] at this
    omega
theorem w3_of {one two : List Nat} (h1 : M4 one) (h2 : M4 two) : W3 one two (prL one two) := ⟨⟨Nat.le_trans h1.le (by decide), h1.ne⟩, ⟨Nat.le_trans h2.le (by decide), h2.ne⟩, pr_len h1 h2⟩
section
variable {one two : List Nat} {mu : List Own} {z4 z5 : Sl} {acc : List (List Nat)}
theorem sAdd (h1 : M4 one) (h2 : M4 two) (es : List SE) (ok : es.all (fun e => e.ok && decide (e.lb ≤ 1000000)) = true) (hv : es.all (fun e => e.vs.all fun i => decide (i < 3)) = true) (hn : es.length ≤ 1000) (ha : acc.length ≤ 10000) :
    setO 3 (addF (vr 3) (frz (lstM (argsS es)))) (stL one two (prL one two) acc z4 z5 mu) = .ok .nx (stL one two (prL one two) (acc ++ vW one two es) z4 z5 mu) := e_wAdd (w3_of h1 h2) es ok hv hn ha
theorem tail (h1 : M4 one) (h2 : M4 two) (w : W3 one two (prL one two)) (l1 : (wr1 one two).length ≤ 1000) (l2 : (wr2 one two).length ≤ 1000) (acc : List (List Nat)) (ha : acc = wr1 one two) :
    (match sq (wFor w8l w8) (sq (setO 3 (addF (vr 3) (frz (lstM (argsS w9))))) (sq (wFor w10l w10) (sq (wFor w11l w11) (sq (setO 3 (addF (vr 3) (frz (lstM (argsS w12))))) (sq (wFor w13l w13) (retM (binD addA (vr 3) (frz (lstM (argsS w14)))))))))) (stL one two (prL one two) acc .non .non mu) with
      | .ok (.rt d) s => .ok d s.mu
      | .ok .nx s => .ok .non s.mu
      | .exc x s => .exc x s.mu
      | _ => .bad) = (RF.ok (D.lst ((wrongL one two).map D.str)) mu : RF) := by
  have la : acc.length ≤ 1000 := by rw [ha]; exact l1
  have len : ∀ es : List SE, (vW one two es).length = es.length := fun es => by unfold vW; rw [List.length_map]
  have len4 : ∀ (ls : List Str) (e : SE), (v4 one two ls e).length = ls.length := fun ls e => by unfold v4; rw [List.length_map, List.length_map]
  have k8 : w8l.length = 7 := by decide
  have k9 : w9.length = 2 := by decide
  have k10 : w10l.length = 7 := by decide
  have k11 : w11l.length = 6 := by decide
  have k12 : w12.length = 2 := by decide
  have k13 : w13l.length = 6 := by decide
  have k14 : w14.length = 4 := by decide
  obtain ⟨y8, e8⟩ := e_wFor (l := []) (z4 := .non) (z5 := .non) (mu := mu) (acc := acc) w w8l w8 (by decide +kernel) (by decide +kernel) (by decide +kernel) (by decide +kernel) (by decide) (by omega)
  have e8 : wFor w8l w8 (stL one two (prL one two) acc .non .non mu) = .ok .nx (stL one two (prL one two) (acc ++ v4 one two w8l w8) y8 .non mu) := e8
  have e9 := sAdd (mu := mu) (z4 := y8) (z5 := .non) (acc := acc ++ v4 one two w8l w8) h1 h2 w9 (by decide +kernel) (by decide +kernel) (by decide) (by simp only [List.length_append, len, len4, k8]; omega)
  obtain ⟨y10, e10⟩ := e_wFor (l := []) (z4 := y8) (z5 := .non) (mu := mu) (acc := acc ++ v4 one two w8l w8 ++ vW one two w9) w w10l w10 (by decide +kernel) (by decide +kernel) (by decide +kernel) (by decide +kernel) (by decide) (by simp only [List.length_append, len, len4, k8, k9]; omega)
  have e10 : wFor w10l w10 (stL one two (prL one two) (acc ++ v4 one two w8l w8 ++ vW one two w9) y8 .non mu) = .ok .nx (stL one two (prL one two) (acc ++ v4 one two w8l w8 ++ vW one two w9 ++ v4 one two w10l w10) y10 .non mu) := e10
  obtain ⟨y11, e11⟩ := e_wFor (l := []) (z4 := y10) (z5 := .non) (mu := mu) (acc := acc ++ v4 one two w8l w8 ++ vW one two w9 ++ v4 one two w10l w10) w w11l w11 (by decide +kernel) (by decide +kernel) (by decide +kernel) (by decide +kernel) (by decide) (by simp only [List.length_append, len, len4, k8, k9, k10]; omega)
  have e11 : wFor w11l w11 (stL one two (prL one two) (acc ++ v4 one two w8l w8 ++ vW one two w9 ++ v4 one two w10l w10) y10 .non mu) = .ok .nx (stL one two (prL one two) (acc ++ v4 one two w8l w8 ++ vW one two w9 ++ v4 one two w10l w10 ++ v4 one two w11l w11) y11 .non mu) := e11
  have e12 := sAdd (mu := mu) (z4 := y11) (z5 := .non) (acc := acc ++ v4 one two w8l w8 ++ vW one two w9 ++ v4 one two w10l w10 ++ v4 one two w11l w11) h1 h2 w12 (by decide +kernel) (by decide +kernel) (by decide) (by simp only [List.length_append, len, len4, k8, k9, k10, k11]; omega)
  obtain ⟨y13, e13⟩ := e_wFor (l := []) (z4 := y11) (z5 := .non) (mu := mu) (acc := acc ++ v4 one two w8l w8 ++ vW one two w9 ++ v4 one two w10l w10 ++ v4 one two w11l w11 ++ vW one two w12) w w13l w13 (by decide +kernel) (by decide +kernel) (by decide +kernel) (by decide +kernel) (by decide) (by simp only [List.length_append, len, len4, k8, k9, k10, k11, k12]; omega)
  have e13 : wFor w13l w13 (stL one two (prL one two) (acc ++ v4 one two w8l w8 ++ vW one two w9 ++ v4 one two w10l w10 ++ v4 one two w11l w11 ++ vW one two w12) y11 .non mu) = .ok .nx (stL one two (prL one two) (acc ++ v4 one two w8l w8 ++ vW one two w9 ++ v4 one two w10l w10 ++ v4 one two w11l w11 ++ vW one two w12 ++ v4 one two w13l w13) y13 .non mu) := e13
  rw [x_sq, e8]; simp only [R.bind_ok]
  rw [x_sq, e9]; simp only [R.bind_ok]
  rw [x_sq, e10]; simp only [R.bind_ok]
  rw [x_sq, e11]; simp only [R.bind_ok]
  rw [x_sq, e12]; simp only [R.bind_ok]
  rw [x_sq, e13]; simp only [R.bind_ok]
  have hB : acc ++ v4 one two w8l w8 ++ vW one two w9 ++ v4 one two w10l w10 ++ v4 one two w11l w11 ++ vW one two w12 ++ v4 one two w13l w13 = wr2 one two := by rw [ha]; rfl
  rw [hB]
  have ev := e_lstS (s := stL one two (prL one two) (wr2 one two) y13 .non mu) (env := envW one two (prL one two) [] []) (es := w14) ⟨by decide +kernel, fun e he => holdsW w fun i hi => by
    have hv : w14.all (fun e => e.vs.all fun i => decide (i < 3)) = true := by decide +kernel
    exact of_decide_eq_true (List.all_eq_true.mp (List.all_eq_true.mp hv e he) i hi), by decide⟩
  have v3 : vr 3 (stL one two (prL one two) (wr2 one two) y13 .non mu) = .ok (.loc 3) (stL one two (prL one two) (wr2 one two) y13 .non mu) := rfl
  have ad : addA (stL one two (prL one two) (wr2 one two) y13 .non mu) (.loc 3) (.lst ((vW one two w14).map D.str)) = some (.lst ((wr2 one two).map D.str ++ (vW one two w14).map D.str)) := by
    have r3 : rdL (stL one two (prL one two) (wr2 one two) y13 .non mu) (.loc 3) = some ((wr2 one two).map D.str) := rfl
    have r4 : rdL (stL one two (prL one two) (wr2 one two) y13 .non mu) (.lst ((vW one two w14).map D.str)) = some ((vW one two w14).map D.str) := rfl
    have a0 : ∀ (s : S) (i : Nat) (xs : List D), addA s (.loc i) (.lst xs) = lstAdd s (.loc i) (.lst xs) := fun _ _ _ => rfl
    rw [a0]
    unfold lstAdd
    rw [r3, r4]
    simp only
    rw [if_pos (by rw [List.length_map, List.length_map, len, k14]; exact sz_add l2 (by decide : 4 ≤ 1000) (by decide))]
  rw [x_retM, x_binD, v3]
  simp only [R.bind_ok, x_frz, ev, Own.dat]
  have ad' : addA (stL one two (prL one two) (wr2 one two) y13 .non mu) (.loc 3) (.lst ((w14.map (SE.val (envW one two (prL one two) [] []))).map D.str)) = some (.lst ((wr2 one two).map D.str ++ (vW one two w14).map D.str)) := ad
  rw [ad']
  simp only [mo, R.bind_ok]
  unfold wrongL
  rw [List.map_append]
  rfl
theorem e_wr (h1 : M4 one) (h2 : M4 two) : F__law_wrong_lines ga [.str one, .str two] mu = .ok (.lst ((wrongL one two).map D.str)) mu := by
  have w := w3_of h1 h2
  have hb : begS 6 [.str one, .str two] = [.dat (.str one), .dat (.str two), .non, .non, .non, .non] := rfl
  have hp : asgM wPair.den (gN 2) ⟨[.dat (.str one), .dat (.str two), .non, .non, .non, .non], mu⟩ = .ok .nx ⟨[.dat (.str one), .dat (.str two), .dat (.str (prL one two)), .non, .non, .non], mu⟩ := by
    have hs : Holds ⟨[.dat (.str one), .dat (.str two), .non, .non, .non, .non], mu⟩ (envW one two [] [] []) wPair.vs := fun i hi => by
      have : i = 0 ∨ i = 1 := by simpa [wPair, SE.vs] using hi
      rcases this with h | h
      · subst h; exact ⟨rfl, w.h0⟩
      · subst h; exact ⟨rfl, w.h1⟩
    have ev := e_se wPair hs (by decide +kernel) (by decide +kernel)
    unfold asgM mb
    rw [ev]
    rfl
  have hf : setO 3 (lstM (argsS w1)) ⟨[.dat (.str one), .dat (.str two), .dat (.str (prL one two)), .non, .non, .non], mu⟩ = .ok .nx (stL one two (prL one two) (vW one two w1) .non .non mu) := by
    have ev := e_lstS (s := ⟨[.dat (.str one), .dat (.str two), .dat (.str (prL one two)), .non, .non, .non], mu⟩) (env := envW one two (prL one two) [] []) (es := w1) ⟨by decide +kernel, fun e he i hi => by
      have hv : w1.all (fun e => e.vs.all fun i => decide (i < 3)) = true := by decide +kernel
      have h := of_decide_eq_true (List.all_eq_true.mp (List.all_eq_true.mp hv e he) i hi)
      match i, h with
      | 0, _ => exact ⟨rfl, w.h0⟩
      | 1, _ => exact ⟨rfl, w.h1⟩
      | 2, _ => exact ⟨rfl, w.h2⟩, by decide⟩
    rw [x_setO, ev]
    rfl
  have len : ∀ es : List SE, (vW one two es).length = es.length := fun es => by unfold vW; rw [List.length_map]
  have len4 : ∀ (ls : List Str) (e : SE), (v4 one two ls e).length = ls.length := fun ls e => by unfold v4; rw [List.length_map, List.length_map]
  have len5 : ∀ (ls : List Str) (e : SE), (v5 one two ls e).length = ls.length := fun ls e => by unfold v5; rw [List.length_map, List.length_map]
  unfold F__law_wrong_lines
  rw [x_runB, hb, wl_eq]
  unfold wlM
  rw [x_sq, hp]; simp only [R.bind_ok]
  rw [x_sq, hf]; simp only [R.bind_ok]
  rw [x_sq, sAdd h1 h2 w2 (by decide +kernel) (by decide +kernel) (by decide) (by simp only [List.length_append, len]; decide)]; simp only [R.bind_ok]
  rw [x_sq, sAdd h1 h2 w3 (by decide +kernel) (by decide +kernel) (by decide) (by simp only [List.length_append, len]; decide)]; simp only [R.bind_ok]
  rw [x_sq, sAdd h1 h2 w4 (by decide +kernel) (by decide +kernel) (by decide) (by simp only [List.length_append, len]; decide)]; simp only [R.bind_ok]
  rw [x_sq, sAdd h1 h2 w5 (by decide +kernel) (by decide +kernel) (by decide) (by simp only [List.length_append, len]; decide)]; simp only [R.bind_ok]
  rw [x_sq, e_wCom (o := []) w w6l w6 (by decide +kernel) (by decide +kernel) (by decide +kernel) (by decide +kernel) (by decide) (by simp only [List.length_append, len]; decide)]; simp only [R.bind_ok]
  rw [x_sq, sAdd h1 h2 w7 (by decide +kernel) (by decide +kernel) (by decide) (by simp only [List.length_append, len, List.length_map]; decide)]; simp only [R.bind_ok]
  have l1 : (wr1 one two).length ≤ 1000 := by unfold wr1; simp only [List.length_append, len, len5]; decide
  have l2 : (wr2 one two).length ≤ 1000 := by unfold wr2 wr1; simp only [List.length_append, len, len5, len4]; decide
  refine tail h1 h2 w l1 l2 _ rfl
end
end K02
end
section -- Q2E
set_option Elab.async false
set_option linter.all false
set_option maxRecDepth 100000
set_option maxHeartbeats 1000000
namespace K02
open PySem PySem.Spec L2 DL
/-- a word: written, one of the two marks, three signs of one of them and more -/
inductive Wk where
  | lit (w : List Nat) | one | two | cut1 (s : List Nat) | cut2 (s : List Nat)
def Wk.ev (a b : List Nat) : Wk → List Nat
  | .lit w => w
  | .one => a
  | .two => b
  | .cut1 s => a.take 3 ++ s
  | .cut2 s => b.take 3 ++ s
def u1 : List (List Wk) := [[.lit []], [.lit [], .lit []], [.lit [114, 101, 109, 97, 114, 107]], [.lit [114, 101, 109, 97, 114, 107], .one], [.lit [114, 101, 109, 97, 114, 107], .one, .lit [116, 111]], [.lit [114, 101, 109, 97, 114, 107], .one, .lit [105, 110], .lit [108, 105, 110, 101]]]
def u2 : List (List Wk) := [[.lit [82, 101, 109, 97, 114, 107], .one, .lit [116, 111], .lit [108, 105, 110, 101]], [.lit [99, 111, 100, 101], .one, .lit [116, 111], .lit [108, 105, 110, 101]], [.lit [114, 101, 109, 97, 114, 107], .lit [97], .lit [116, 111], .lit [108, 105, 110, 101]], [.lit [114, 101, 109, 97, 114, 107], .lit [116, 111], .lit [108, 105, 110, 101]]]
def u3 : List (List Wk) := [[.lit [114, 101, 109, 97, 114, 107], .one, .lit [116, 111], .lit [97]], [.lit [114, 101, 109, 97, 114, 107], .one, .lit [116, 111], .lit [63, 63, 63, 63, 63]], [.lit [113, 117, 111, 116, 101], .lit [63, 63, 63, 63, 63], .lit [116, 111], .lit [108, 105, 110, 101]]]
def u4 : List (List Wk) := [[.lit [113, 117, 111, 116, 101], .lit [95], .lit [116, 111], .lit [108, 105, 110, 101]], [.lit [113, 117, 111, 116, 101], .one, .lit [116, 111], .lit [95]], [.lit [113, 117, 111, 116, 101], .one, .lit [116, 111], .lit [108, 105, 110, 101], .lit []], [.lit [], .lit [114, 101, 109, 97, 114, 107], .one, .lit [116, 111], .two]]
def u5 : List (List Wk) := [[.lit [114, 101, 109, 97, 114, 107], .lit [49], .lit [116, 111], .lit [108, 105, 110, 101]], [.lit [114, 101, 109, 97, 114, 107], .lit [65], .lit [116, 111], .lit [108, 105, 110, 101]], [.lit [114, 101, 109, 97, 114, 107], .cut1 [97], .lit [116, 111], .lit [108, 105, 110, 101]]]
def u6 : List (List Wk) := [[.lit [113, 117, 111, 116, 101], .one, .lit [116, 111], .cut2 [49]], [.lit [113, 117, 111, 116, 101], .one, .lit [116, 111], .cut2 [95]], [.lit [113, 117, 111, 116, 101], .one, .lit [116, 111], .cut2 [90]]]
def u7 : List (List Wk) := [[.lit [114, 101, 109, 97, 114, 107], .lit [], .one, .lit [116, 111], .lit [108, 105, 110, 101]], [.lit [114, 101, 109, 97, 114, 107], .one, .lit [116, 111], .lit [], .lit [108, 105, 110, 101]], [.lit [114, 101, 109, 97, 114, 107], .one, .lit [116, 111], .lit [76, 105, 110, 101]]]
def u8 : List (List Wk) := [[.lit [114, 101, 109, 97, 114, 107], .one, .lit [116, 111], .lit [108, 105, 110, 101], .lit [108, 105, 110, 101]], [.lit [114, 101, 109, 97, 114, 107], .one, .lit [116, 111], .lit [108, 105, 110, 101], .lit [100, 111, 117, 98, 108, 101, 100]], [.lit [114, 101, 109, 97, 114, 107], .one, .lit [116, 111], .lit [108, 105, 110, 101], .lit [110, 101, 115, 116, 101, 100], .lit [50]], [.lit [114, 101, 109, 97, 114, 107], .one, .lit [116, 111], .lit [108, 105, 110, 101], .lit [101, 115, 99, 97, 112, 101]], [.lit [114, 101, 109, 97, 114, 107], .one, .lit [116, 111], .lit [108, 105, 110, 101], .lit [101, 115, 99, 97, 112, 101], .lit [33], .lit [108, 105, 110, 101]], [.lit [114, 101, 109, 97, 114, 107], .one, .lit [116, 111], .lit [108, 105, 110, 101], .lit [101, 115, 99, 97, 112, 101], .lit [33], .lit [100, 111, 117, 98, 108, 101, 100]], [.lit [114, 101, 109, 97, 114, 107], .one, .lit [116, 111], .lit [108, 105, 110, 101], .lit [110, 101, 115, 116, 101, 100], .lit [50], .lit [101, 115, 99, 97, 112, 101], .lit [33]]]
def u9 : List (List Wk) := [[.lit [114, 101, 109, 97, 114, 107], .one, .lit [116, 111], .one, .lit [110, 101, 115, 116, 101, 100], .lit [50]], [.lit [113, 117, 111, 116, 101], .one, .lit [116, 111], .two, .lit [110, 101, 115, 116, 101, 100], .lit [50]]]
def u10 : List (List Wk) := [[.lit [114, 101, 109, 97, 114, 107], .one, .lit [116, 111], .two, .lit [110, 101, 115, 116, 101, 100]], [.lit [114, 101, 109, 97, 114, 107], .one, .lit [116, 111], .two, .lit [110, 101, 115, 116, 101, 100], .lit [49]], [.lit [114, 101, 109, 97, 114, 107], .one, .lit [116, 111], .two, .lit [110, 101, 115, 116, 101, 100], .lit [53]], [.lit [114, 101, 109, 97, 114, 107], .one, .lit [116, 111], .two, .lit [110, 101, 115, 116, 101, 100], .lit [48, 50]], [.lit [114, 101, 109, 97, 114, 107], .one, .lit [116, 111], .two, .lit [110, 101, 115, 116, 101, 100], .lit [116, 119, 111]], [.lit [114, 101, 109, 97, 114, 107], .one, .lit [116, 111], .two, .lit [110, 101, 115, 116, 101, 100], .lit [50], .lit [100, 111, 117, 98, 108, 101, 100]], [.lit [114, 101, 109, 97, 114, 107], .one, .lit [116, 111], .two, .lit [100, 111, 117, 98, 108, 101, 100], .lit [110, 101, 115, 116, 101, 100], .lit [50]]]
def u11 : List (List Wk) := [[.lit [114, 101, 109, 97, 114, 107], .one, .lit [116, 111], .two, .lit [101, 115, 99, 97, 112, 101]], [.lit [114, 101, 109, 97, 114, 107], .one, .lit [116, 111], .two, .lit [101, 115, 99, 97, 112, 101], .lit [33, 33]], [.lit [114, 101, 109, 97, 114, 107], .one, .lit [116, 111], .two, .lit [101, 115, 99, 97, 112, 101], .lit [97]], [.lit [114, 101, 109, 97, 114, 107], .one, .lit [116, 111], .two, .lit [101, 115, 99, 97, 112, 101], .lit [95]], [.lit [114, 101, 109, 97, 114, 107], .one, .lit [116, 111], .two, .lit [101, 115, 99, 97, 112, 101], .lit [49]], [.lit [114, 101, 109, 97, 114, 107], .one, .lit [116, 111], .two, .lit [101, 115, 99, 97, 112, 101], .lit [90]]]
def u12 : List (List Wk) := [[.lit [114, 101, 109, 97, 114, 107], .one, .lit [116, 111], .two, .lit [108, 105, 110, 101], .lit [101, 115, 99, 97, 112, 101], .lit [33]], [.lit [114, 101, 109, 97, 114, 107], .one, .lit [116, 111], .two, .lit [100, 111, 117, 98, 108, 101, 100], .lit [101, 115, 99, 97, 112, 101], .lit [33]]]
def u13 : List (List Wk) := [[.lit [114, 101, 109, 97, 114, 107], .one, .lit [116, 111], .two, .lit [108, 105, 110, 101], .lit [108, 105, 110, 101]], [.lit [114, 101, 109, 97, 114, 107], .one, .lit [116, 111], .two, .lit [100, 111, 117, 98, 108, 101, 100], .lit [100, 111, 117, 98, 108, 101, 100]], [.lit [114, 101, 109, 97, 114, 107], .one, .lit [116, 111], .two, .lit [108, 105, 110, 101], .lit [100, 111, 117, 98, 108, 101, 100]], [.lit [114, 101, 109, 97, 114, 107], .one, .lit [116, 111], .two, .lit [101, 115, 99, 97, 112, 101], .lit [33], .lit [101, 115, 99, 97, 112, 101], .lit [33]], [.lit [114, 101, 109, 97, 114, 107], .one, .lit [116, 111], .two, .lit [110, 101, 115, 116, 101, 100], .lit [50], .lit [110, 101, 115, 116, 101, 100], .lit [50]], [.lit [114, 101, 109, 97, 114, 107], .one, .lit [116, 111], .two, .lit [111, 112, 101, 110]]]
def u14 : List (List Wk) := [[.lit [114, 101, 109, 97, 114, 107], .one, .lit [116, 111], .two, .lit [108, 105, 110, 101], .lit []], [.lit [114, 101, 109, 97, 114, 107], .one, .lit [116, 111], .two, .lit [], .lit [108, 105, 110, 101]], [.lit [114, 101, 109, 97, 114, 107], .one, .lit [116, 111], .two, .lit [110, 101, 115, 116, 101, 100], .lit [50], .lit [101, 115, 99, 97, 112, 101], .lit [33], .lit [100, 111, 117, 98, 108, 101, 100], .lit [108, 105, 110, 101]], [.one, .lit [116, 111], .two]]
def jW (a b : List Nat) (us : List (List Wk)) : List (List Nat) := us.map fun ws => TL.joinL [32] (ws.map (Wk.ev a b))
section
variable {one two : List Nat}
theorem j1 : vW one two w1 = jW one two u1 := by
  simp only [vW, w1, List.map, SE.val, envW, prL, wPair, List.append_assoc]
  rfl
theorem j2 : vW one two w2 = jW one two u2 := by
  simp only [vW, w2, List.map, SE.val, envW, prL, wPair, List.append_assoc]
  rfl
theorem j3 : vW one two w3 = jW one two u3 := by
  simp only [vW, w3, List.map, SE.val, envW, prL, wPair, List.append_assoc]
  rfl
theorem j4 : vW one two w4 = jW one two u4 := by
  simp only [vW, w4, List.map, SE.val, envW, prL, wPair, List.append_assoc]
  rfl
theorem j5 : vW one two w5 = jW one two u5 := by
  simp only [vW, w5, List.map, SE.val, envW, prL, wPair, List.append_assoc]
  simp only [jW, u5, List.map, Wk.ev, TL.joinL, List.append_assoc]
  rfl
theorem j6 : v5 one two w6l w6 = jW one two u6 := by
  simp only [v5, w6l, w6, List.map, SE.val, envW, prL, wPair, List.append_assoc]
  simp only [jW, u6, List.map, Wk.ev, TL.joinL, List.append_assoc]
  rfl
theorem j7 : vW one two w7 = jW one two u7 := by
  simp only [vW, w7, List.map, SE.val, envW, prL, wPair, List.append_assoc]
  rfl
theorem j8 : v4 one two w8l w8 = jW one two u8 := by
  simp only [v4, w8l, w8, List.map, SE.val, envW, prL, wPair, List.append_assoc]
  rfl
theorem j9 : vW one two w9 = jW one two u9 := by
  simp only [vW, w9, List.map, SE.val, envW, prL, wPair, List.append_assoc]
  rfl
theorem j10 : v4 one two w10l w10 = jW one two u10 := by
  simp only [v4, w10l, w10, List.map, SE.val, envW, prL, wPair, List.append_assoc]
  rfl
theorem j11 : v4 one two w11l w11 = jW one two u11 := by
  simp only [v4, w11l, w11, List.map, SE.val, envW, prL, wPair, List.append_assoc]
  rfl
theorem j12 : vW one two w12 = jW one two u12 := by
  simp only [vW, w12, List.map, SE.val, envW, prL, wPair, List.append_assoc]
  rfl
theorem j13 : v4 one two w13l w13 = jW one two u13 := by
  simp only [v4, w13l, w13, List.map, SE.val, envW, prL, wPair, List.append_assoc]
  rfl
theorem j14 : vW one two w14 = jW one two u14 := by
  simp only [vW, w14, List.map, SE.val, envW, prL, wPair, List.append_assoc]
  rfl
end
def wrongW : List (List Wk) := u1 ++ u2 ++ u3 ++ u4 ++ u5 ++ u6 ++ u7 ++ u8 ++ u9 ++ u10 ++ u11 ++ u12 ++ u13 ++ u14
theorem wrong_words (one two : List Nat) : wrongL one two = jW one two wrongW := by
  unfold wrongL wr2 wr1 wrongW
  rw [j1, j2, j3, j4, j5, j6, j7, j8, j9, j10, j11, j12, j13, j14]
  unfold jW
  simp only [List.map_append]
/-! ### the checker -/
def Wk.lit? : Wk → Option (List Nat)
  | .lit w => some w
  | _ => none
def noKind : Wk → Bool
  | .lit w => !(decide (w = remarkC) || decide (w = quoteC))
  | .one => true
  | .two => true
  | _ => false
def badSign (s : List Nat) : Bool := s.any fun c => !decide (c ∈ mkS)
def noMark : Wk → Bool
  | .lit w => !isMarkB w
  | .cut1 s => badSign s
  | .cut2 s => badSign s
  | _ => false
def noTo : Wk → Bool
  | .lit w => !decide (w = toC)
  | _ => false
def noClose : Wk → Bool
  | .lit w => !decide (w = lineC) && (!decide (w = []) && !isMarkB w)
  | .cut1 s => badSign s
  | .cut2 s => badSign s
  | _ => false
def isLine : Wk → Bool
  | .lit w => decide (w = lineC) || decide (w = [])
  | _ => false
def sameMark : Wk → Wk → Bool
  | .one, .one => true
  | .two, .two => true
  | _, _ => false
def isQuote : Wk → Bool
  | .lit w => decide (w = quoteC)
  | _ => false
def badW : List Wk → Bool
  | a :: b :: c :: d :: r => noKind a || noMark b || noTo c || (match r.mapM Wk.lit? with
    | none => false
    | some ws => (match optsM ws with
      | none => true
      | some o => noClose d || (isLine d && (decide (0 < o.n) || o.d || o.l)) || (decide (0 < o.n) && (isQuote a || sameMark b d || o.d))))
  | _ => true
theorem all_bad : wrongW.all badW = true := by decide +kernel
/-! ### its soundness -/
structure Mk4 (m : List Nat) : Prop where
  le : m.length ≤ 4
  ne : m ≠ []
  all : ∀ c ∈ m, c ∈ mkS
theorem Mk4.m4 {m : List Nat} (h : Mk4 m) : M4 m := ⟨h.le, h.ne⟩
theorem no_kind {m : List Nat} (h : ∀ c ∈ m, c ∈ mkS) : m ≠ remarkC ∧ m ≠ quoteC := by
  have a : (114 : Nat) ∉ mkS := by rw [mkS_eq]; decide
  have b : (113 : Nat) ∉ mkS := by rw [mkS_eq]; decide
  constructor
  · intro z
    rw [z] at h
    exact a (h 114 (by decide))
  · intro z
    rw [z] at h
    exact b (h 113 (by decide))
theorem bad_mark {m s : List Nat} (h : badSign s = true) : isMarkB (m ++ s) = false := by
  obtain ⟨c, hc, hb⟩ := List.any_eq_true.mp h
  have hb : c ∉ mkS := by simpa using hb
  cases q : isMarkB (m ++ s) with
  | false => rfl
  | true =>
    obtain ⟨_, q⟩ := He.ba q
    obtain ⟨_, q⟩ := He.ba q
    have := of_decide_eq_true (List.all_eq_true.mp q c (List.mem_append_right _ hc))
    exact absurd this hb
section
variable {a b : List Nat}
theorem ev_noKind (ha : Mk4 a) (hb : Mk4 b) {w : Wk} (h : noKind w = true) : (decide (w.ev a b = remarkC) || decide (w.ev a b = quoteC)) = false := by
  cases w with
  | lit x =>
    simp only [noKind, Bool.not_eq_true'] at h
    exact h
  | one =>
    obtain ⟨h1, h2⟩ := no_kind ha.all
    simp [Wk.ev, h1, h2]
  | two =>
    obtain ⟨h1, h2⟩ := no_kind hb.all
    simp [Wk.ev, h1, h2]
  | cut1 s => cases h
  | cut2 s => cases h
theorem ev_noMark {w : Wk} (h : noMark w = true) : isMarkB (w.ev a b) = false := by
  cases w with
  | lit x => simpa [noMark, Wk.ev] using h
  | one => cases h
  | two => cases h
  | cut1 s => exact bad_mark h
  | cut2 s => exact bad_mark h
theorem ev_noTo {w : Wk} (h : noTo w = true) : w.ev a b ≠ toC := by
  cases w with
  | lit x => simpa [noTo, Wk.ev] using h
  | _ => cases h
theorem cut_noLine {m : List Nat} (hm : Mk4 m) (s : List Nat) : m.take 3 ++ s ≠ lineC := by
  cases q : m with
  | nil => exact absurd q hm.ne
  | cons c r =>
    intro z
    have hc := hm.all c (by rw [q]; simp)
    have e : (c :: r).take 3 = c :: r.take 2 := rfl
    rw [e, line_eq] at z
    injection z with z1 z2
    exact (mk_nb c hc).2.2.2 z1
theorem bad_ne {m s : List Nat} (h : badSign s = true) : m ++ s ≠ [] := fun z => by
  have := (List.append_eq_nil_iff.mp z).2
  rw [this] at h
  cases h
theorem ev_noClose (ha : Mk4 a) (hb : Mk4 b) {w : Wk} (h : noClose w = true) : w.ev a b ≠ lineC ∧ w.ev a b ≠ [] ∧ isMarkB (w.ev a b) = false := by
  cases w with
  | lit x => simpa [noClose, Wk.ev] using h
  | one => cases h
  | two => cases h
  | cut1 s => exact ⟨cut_noLine ha s, bad_ne h, bad_mark h⟩
  | cut2 s => exact ⟨cut_noLine hb s, bad_ne h, bad_mark h⟩
theorem ev_lits : ∀ {r : List Wk} {ws : List (List Nat)}, r.mapM Wk.lit? = some ws → r.map (Wk.ev a b) = ws
  | [], ws, h => by
    have : some [] = some ws := h
    cases this; rfl
  | w :: r, ws, h => by
    rw [List.mapM_cons] at h
    cases q : w.lit? with
    | none => rw [q] at h; cases h
    | some x =>
      rw [q] at h
      cases q2 : r.mapM Wk.lit? with
      | none => rw [q2] at h; cases h
      | some xs =>
        rw [q2] at h
        have h : some (x :: xs) = some ws := h
        cases h
        rw [List.map_cons, ev_lits q2]
        cases w with
        | lit y => cases q; rfl
        | _ => cases q
theorem bad_end (ha : Mk4 a) (hb : Mk4 b) {u0 u1 u2 u3 : Wk} {r : List (List Nat)} {o : Op} (h : (noClose u3 || isLine u3 && (decide (0 < o.n) || o.d || o.l) || decide (0 < o.n) && (isQuote u0 || sameMark u1 u3 || o.d)) = true) :
    (if (Wd.mk (u0.ev a b) (u1.ev a b) (u2.ev a b) (u3.ev a b) r).cl ≠ [] ∧ isMarkB (Wd.mk (u0.ev a b) (u1.ev a b) (u2.ev a b) (u3.ev a b) r).cl = false then none
      else if (Wd.mk (u0.ev a b) (u1.ev a b) (u2.ev a b) (u3.ev a b) r).cl = [] ∧ (0 < o.n ∨ o.d = true ∨ o.l = true) then none
      else if 0 < o.n ∧ (u0.ev a b ≠ remarkC ∨ (Wd.mk (u0.ev a b) (u1.ev a b) (u2.ev a b) (u3.ev a b) r).cl = u1.ev a b ∨ o.d = true) then none
      else some (⟨[if u0.ev a b = remarkC then 114 else 113], u1.ev a b, (Wd.mk (u0.ev a b) (u1.ev a b) (u2.ev a b) (u3.ev a b) r).cl, o.n, o.e, o.d, o.l || decide ((Wd.mk (u0.ev a b) (u1.ev a b) (u2.ev a b) (u3.ev a b) r).cl = [])⟩ : Rl)) = none := by
  have c1 : (Wd.mk (u0.ev a b) (u1.ev a b) (u2.ev a b) (u3.ev a b) r).cl = if u3.ev a b = lineC then [] else u3.ev a b := rfl
  by_cases hl : u3.ev a b = lineC
  · rw [if_pos hl] at c1
    rw [c1]
    have h' : 0 < o.n ∨ o.d = true ∨ o.l = true := by
      rcases Bool.or_eq_true_iff.mp h with h | h
      · rcases Bool.or_eq_true_iff.mp h with h | h
        · exact absurd hl (ev_noClose ha hb h).1
        · obtain ⟨_, h⟩ := He.ba h
          simp only [Bool.or_eq_true, decide_eq_true_eq] at h
          rcases h with (h | h) | h
          · exact .inl h
          · exact .inr (.inl h)
          · exact .inr (.inr h)
      · exact .inl (of_decide_eq_true (He.ba h).1)
    rw [if_neg (fun z => z.1 rfl), if_pos ⟨rfl, h'⟩]
  · rw [if_neg hl] at c1
    rw [c1]
    by_cases hc : u3.ev a b ≠ [] ∧ isMarkB (u3.ev a b) = false
    · rw [if_pos hc]
    · rw [if_neg hc]
      by_cases hc2 : u3.ev a b = [] ∧ (0 < o.n ∨ o.d = true ∨ o.l = true)
      · rw [if_pos hc2]
      · rw [if_neg hc2]
        refine if_pos ?_
        have ne : noClose u3 = true → False := fun z => by
          obtain ⟨z1, z2, z3⟩ := ev_noClose ha hb z
          exact hc ⟨z2, z3⟩
        rcases Bool.or_eq_true_iff.mp h with h | h
        · rcases Bool.or_eq_true_iff.mp h with h | h
          · exact (ne h).elim
          · obtain ⟨h, h'⟩ := He.ba h
            cases u3 with
            | lit x =>
              rcases Bool.or_eq_true_iff.mp h with h | h
              · exact absurd (of_decide_eq_true h) hl
              · refine absurd ⟨of_decide_eq_true h, ?_⟩ hc2
                simp only [Bool.or_eq_true, decide_eq_true_eq] at h'
                rcases h' with (h' | h') | h'
                · exact .inl h'
                · exact .inr (.inl h')
                · exact .inr (.inr h')
            | _ => cases h
        · obtain ⟨h1, h2⟩ := He.ba h
          refine ⟨of_decide_eq_true h1, ?_⟩
          simp only [Bool.or_eq_true] at h2
          rcases h2 with (h2 | h2) | h2
          · refine .inl ?_
            cases u0 with
            | lit x =>
              have := of_decide_eq_true h2
              subst this
              show quoteC ≠ remarkC
              decide
            | _ => cases h2
          · refine .inr (.inl ?_)
            cases u1 <;> cases u3 <;> first | (cases h2; done) | rfl
          · exact .inr (.inr h2)
theorem bad_none (ha : Mk4 a) (hb : Mk4 b) {us : List Wk} (h : badW us = true) : (match us.map (Wk.ev a b) with
    | x :: y :: z :: t :: r => ruleM ⟨x, y, z, t, r⟩
    | _ => none) = none := by
  match us, h with
  | [], _ => rfl
  | [_], _ => rfl
  | [_, _], _ => rfl
  | [_, _, _], _ => rfl
  | u0 :: u1 :: u2 :: u3 :: r, h =>
    show ruleM ⟨u0.ev a b, u1.ev a b, u2.ev a b, u3.ev a b, r.map (Wk.ev a b)⟩ = none
    unfold badW at h
    unfold ruleM
    by_cases hh : (Wd.mk (u0.ev a b) (u1.ev a b) (u2.ev a b) (u3.ev a b) (r.map (Wk.ev a b))).headB = true
    · rw [if_pos hh]
      unfold Wd.headB at hh
      obtain ⟨k1, hh⟩ := He.ba hh
      obtain ⟨k2, k3⟩ := He.ba hh
      have k3 := of_decide_eq_true k3
      have n0 : noKind u0 = false := by
        cases q : noKind u0 with
        | false => rfl
        | true => rw [ev_noKind ha hb q] at k1; cases k1
      have n1 : noMark u1 = false := by
        cases q : noMark u1 with
        | false => rfl
        | true =>
          have e : isMarkB (u1.ev a b) = false := ev_noMark q
          rw [e] at k2; cases k2
      have n2 : noTo u2 = false := by
        cases q : noTo u2 with
        | false => rfl
        | true => exact absurd k3 (ev_noTo q)
      simp only at h
      rw [n0, n1, n2] at h
      simp only [Bool.false_or] at h
      cases qm : r.mapM Wk.lit? with
      | none => rw [qm] at h; cases h
      | some ws =>
        rw [qm] at h
        have er := ev_lits (a := a) (b := b) qm
        simp only [er]
        cases qo : optsM ws with
        | none => rfl
        | some o =>
          simp only at h
          rw [qo] at h
          simp only at h ⊢
          exact bad_end ha hb h
    · rw [if_neg hh]
end
end K02
end
section -- Q2F
set_option Elab.async false
set_option linter.all false
set_option maxRecDepth 100000
set_option maxHeartbeats 1000000
namespace K02
open PySem PySem.Spec L2 DL
variable {ga : Str → Addr}
theorem mem_joinL {z : List Nat} {c : Nat} : ∀ {ys : List (List Nat)}, c ∈ TL.joinL z ys → c ∈ z ∨ ∃ y ∈ ys, c ∈ y
  | [], h => by cases h
  | [y], h => .inr ⟨y, by simp, h⟩
  | y :: w :: ys, h => by
    simp only [TL.joinL, List.mem_append] at h
    rcases h with h | h | h
    · exact .inr ⟨y, by simp, h⟩
    · exact .inl h
    · rcases mem_joinL h with h | ⟨u, h1, h2⟩
      · exact .inl h
      · exact .inr ⟨u, by simp [List.mem_cons] at h1 ⊢; exact .inr h1, h2⟩
/-- a line that may be told of -/
structure LineG (x : List Nat) : Prop where
  ok : LineOk x
  len : x.length ≤ 200
  nn : 10 ∉ x
theorem line_words {ws : List (List Nat)} (hn : ws ≠ []) (hl : ws.length ≤ 10) (h : ∀ w ∈ ws, WordOk w) : TL.spl [32] 0 [] (TL.joinL [32] ws) = ws ∧ LineG (TL.joinL [32] ws) := by
  have hs : TL.spl [32] 0 [] (TL.joinL [32] ws) = ws := TL.spl_join hn fun p hp => (h p hp).nb
  have l : (TL.joinL [32] ws).length ≤ 200 := by
    have h1 := joinL_len [32] ws
    have h2 := sum_le (ys := ws) (b := 10) fun w hw => (h w hw).len
    simp only [List.length_cons, List.length_nil] at h1
    omega
  refine ⟨hs, ⟨⟨by omega, ?_⟩, l, fun z => ?_⟩⟩
  · rw [hs]
    exact ⟨by omega, fun w hw => ⟨by have := (h w hw).len; omega, by
      unfold okT
      rw [List.all_eq_true]
      intro c hc
      have := (h w hw).lt c hc
      simp; omega⟩⟩
  · rcases mem_joinL z with z | ⟨y, h1, h2⟩
    · simp at z
    · exact (h y h1).nn h2
def wordB (n : Nat) (w : List Nat) : Bool := decide (w.length ≤ n) && (w.all (fun c => decide (c < 256)) && (!w.contains 32 && !w.contains 10))
def wkB : Wk → Bool
  | .lit w => wordB 10 w
  | .cut1 s => wordB 7 s
  | .cut2 s => wordB 7 s
  | _ => true
theorem word_app {m s : List Nat} (hm : Mk4 m) (h : wordB 7 s = true) : WordOk (m.take 3 ++ s) := by
  unfold wordB at h
  simp only [Bool.and_eq_true, decide_eq_true_eq, List.all_eq_true, Bool.not_eq_true', List.contains_eq_mem, decide_eq_false_iff_not] at h
  have k : ∀ c ∈ m.take 3, c ∈ mkS := fun c hc => hm.all c (List.mem_of_mem_take hc)
  refine ⟨?_, fun c hc => ?_, fun z => ?_, fun z => ?_⟩
  · have := h.1
    simp only [List.length_append, List.length_take]
    omega
  · rcases List.mem_append.mp hc with hc | hc
    · exact (mk_nb c (k c hc)).2.2.1
    · exact h.2.1 c hc
  · rcases List.mem_append.mp z with z | z
    · exact (mk_nb _ (k _ z)).1 rfl
    · exact h.2.2.1 z
  · rcases List.mem_append.mp z with z | z
    · exact (mk_nb _ (k _ z)).2.1 rfl
    · exact h.2.2.2 z
theorem ev_word {a b : List Nat} (ha : Mk4 a) (hb : Mk4 b) {w : Wk} (h : wkB w = true) : WordOk (w.ev a b) := by
  cases w with
  | lit x => exact word_of h
  | one => exact word_mk (Nat.le_trans ha.le (by decide)) ha.all
  | two => exact word_mk (Nat.le_trans hb.le (by decide)) hb.all
  | cut1 s => exact word_app ha h
  | cut2 s => exact word_app hb h
theorem all_words : wrongW.all (fun ws => !ws.isEmpty && (decide (ws.length ≤ 10) && ws.all wkB)) = true := by decide +kernel
/-- each wrong line is wrong -/
theorem wrong_line {one two : List Nat} (ha : Mk4 one) (hb : Mk4 two) {x : List Nat} (hx : x ∈ wrongL one two) : lineM x = none ∧ LineG x := by
  rw [wrong_words] at hx
  obtain ⟨us, hu, rfl⟩ := List.mem_map.mp hx
  obtain ⟨h1, h2⟩ := He.ba (List.all_eq_true.mp all_words us hu)
  obtain ⟨h2, h3⟩ := He.ba h2
  have hne : us.map (Wk.ev one two) ≠ [] := by
    cases us with
    | nil => cases h1
    | cons _ _ => exact List.cons_ne_nil _ _
  obtain ⟨hs, hg⟩ := line_words hne (by rw [List.length_map]; exact of_decide_eq_true h2) (fun w hw => by
    obtain ⟨u, hu, rfl⟩ := List.mem_map.mp hw
    exact ev_word ha hb (List.all_eq_true.mp h3 u hu))
  refine ⟨?_, hg⟩
  unfold lineM
  rw [hs]
  exact bad_none ha hb (List.all_eq_true.mp all_bad us hu)
/-! ### the readers' law -/
theorem read_right : ∀ (ls : List (List Nat)) (rs acc : List Rl) (rest : List (List Nat)), ls.map lineM = rs.map some → ((acc ++ rs).map (·.op)).Nodup → acc.length + ls.length ≤ 6 → readM acc (ls ++ rest) = readM (acc ++ rs) rest
  | [], [], acc, rest, _, _, _ => by rw [List.append_nil, List.nil_append]
  | [], _ :: _, _, _, h, _, _ => by cases h
  | _ :: _, [], _, _, h, _, _ => by cases h
  | x :: ls, r :: rs, acc, rest, h, nd, hl => by
    simp only [List.map_cons, List.cons.injEq] at h
    have hl' : acc.length + (ls.length + 1) ≤ 6 := by simpa using hl
    have nd' : ((acc ++ [r] ++ rs).map (·.op)).Nodup := by rw [List.append_assoc]; exact nd
    have hk : r.op ∉ acc.map (·.op) := by
      rw [List.map_append, List.map_cons] at nd
      intro z
      exact (List.nodup_append.mp nd).2.2 _ z _ (by simp) rfl
    have ih := read_right ls rs (acc ++ [r]) rest h.2 nd' (by simp; omega)
    rw [List.cons_append, readM, h.1]
    simp only
    rw [if_neg (by simp only [hk, or_false]; omega), ih, List.append_assoc]
    rfl
theorem told_right {ls : List (List Nat)} {rs : List Rl} (h : ls.map lineM = rs.map some) (nd : (rs.map (·.op)).Nodup) (hl : ls.length ≤ 6) : toldM ls = 0 := by
  have e := read_right ls rs [] [] h (by simpa using nd) (by simpa using hl)
  rw [List.append_nil] at e
  unfold toldM
  rw [e]
  rfl
theorem told_bad {ls : List (List Nat)} {rs : List Rl} {x : List Nat} {rest : List (List Nat)} (h : ls.map lineM = rs.map some) (nd : (rs.map (·.op)).Nodup) (hl : ls.length ≤ 6) (hx : lineM x = none ∨ ls.length = 6 ∨ ∃ r, lineM x = some r ∧ r.op ∈ rs.map (·.op)) :
    toldM (ls ++ x :: rest) = (ls.length : Int) + 1 := by
  have e := read_right ls rs [] (x :: rest) h (by simpa using nd) (by simpa using hl)
  have lr : rs.length = ls.length := by
    have := congrArg List.length h
    simpa using this.symm
  have q : readM ([] ++ rs) (x :: rest) = some (ls.length + 1) := by
    rw [List.nil_append, readM]
    cases hq : lineM x with
    | none => simp only [lr]
    | some r =>
      simp only
      rw [if_pos, lr]
      rcases hx with hx | hx | ⟨r', h1, h2⟩
      · rw [hx] at hq; cases hq
      · exact .inl (by rw [lr, hx])
      · rw [h1] at hq; cases hq; exact .inr h2
  unfold toldM
  rw [e, q]
  simp
end K02
end
section -- Q2G
set_option Elab.async false
set_option linter.all false
set_option maxRecDepth 100000
set_option maxHeartbeats 1000000
namespace K02
open PySem PySem.Spec L2 DL
variable {ga : Str → Addr}
def n1 : List SE := [(.add (.add (.lit "remark ") (.var 0)) (.lit " to line")), (.add (.add (.add (.lit "quote ") (.var 0)) (.lit " to line escape ")) (.hd 0)), (.add (.var 2) (.lit " nested 2"))]
def n2 : List SE := [(.add (.var 2) (.lit " nested 4 escape ! line")), (.add (.var 2) (.lit " escape ! doubled line"))]
def n3 : List SE := [(.add (.var 2) (.lit " doubled")), (.add (.var 2) (.lit " line"))]
def n4 : List SE := [(.add (.add (.add (.lit "quote ") (.var 0)) (.lit " to ")) (.var 0)), (.add (.add (.add (.add (.lit "quote ") (.var 0)) (.lit " to ")) (.var 0)) (.lit " doubled")), (.add (.var 2) (.lit " nested 3 line"))]
def n5 : List SE := [(.add (.add (.add (.add (.add (.add (.lit "quote ") (.var 0)) (.lit " to ")) (.var 1)) (.lit " escape ")) (.hd 1)) (.lit " line")), (.add (.add (.lit "remark ") (.var 0)) (.lit " to ????"))]
def nlM : M Fl := (sq (asgM wPair.den (gN 2)) (sq (asgM (frz (lstM (argsS n1))) (gN 3)) (sq (asgM (binD addA (vr 3) (frz (lstM (argsS n2)))) (gN 3)) (sq (asgM (binD addA (vr 3) (frz (lstM (argsS n3)))) (gN 3)) (sq (asgM (binD addA (vr 3) (frz (lstM (argsS n4)))) (gN 3)) (retM (binD addA (vr 3) (frz (lstM (argsS n5))))))))))
theorem nl_eq : m__law_near_lines ga = nlM := rfl
def nL (one two : List Nat) (es : List SE) : List (List Nat) := es.map (SE.val (envW one two (prL one two) [] []))
def nearS (one two : List Nat) : List (List Nat) := nL one two n1 ++ nL one two n2 ++ nL one two n3 ++ nL one two n4 ++ nL one two n5
def stN (one two pr : List Nat) (acc : List (List Nat)) (mu : List Own) : S := ⟨[.dat (.str one), .dat (.str two), .dat (.str pr), .dat (.lst (acc.map D.str))], mu⟩
section
variable {one two pr : List Nat} {mu : List Own} {acc : List (List Nat)}
theorem holdsN {z : Sl} {is : List Nat} (w : W3 one two pr) (h : ∀ i ∈ is, i < 3) : Holds ⟨[.dat (.str one), .dat (.str two), .dat (.str pr), z], mu⟩ (envW one two pr [] []) is := fun i hi => by
  match i, h i hi with
  | 0, _ => exact ⟨rfl, w.h0⟩
  | 1, _ => exact ⟨rfl, w.h1⟩
  | 2, _ => exact ⟨rfl, w.h2⟩
theorem addN (w : W3 one two pr) (es : List SE) (ok : es.all (fun e => e.ok && decide (e.lb ≤ 1000000)) = true) (hv : es.all (fun e => e.vs.all fun i => decide (i < 3)) = true) (hn : es.length ≤ 1000) (ha : acc.length ≤ 10000) :
    binD addA (vr 3) (frz (lstM (argsS es))) (stN one two pr acc mu) = .ok (.lst ((acc ++ es.map (SE.val (envW one two pr [] []))).map D.str)) (stN one two pr acc mu) := by
  have ev := e_lstS (s := stN one two pr acc mu) (env := envW one two pr [] []) (es := es) ⟨ok, fun e he => holdsN w fun i hi => of_decide_eq_true (List.all_eq_true.mp (List.all_eq_true.mp hv e he) i hi), hn⟩
  have v3 : vr 3 (stN one two pr acc mu) = .ok (.lst (acc.map D.str)) (stN one two pr acc mu) := rfl
  have ad : ∀ s : S, addA s (.lst (acc.map D.str)) (.lst ((es.map (SE.val (envW one two pr [] []))).map D.str)) = some (.lst ((acc ++ es.map (SE.val (envW one two pr [] []))).map D.str)) := fun s => by
    rw [addA_lst, if_pos (by simp only [List.length_map]; exact sz_add ha hn (by decide)), List.map_append]
  rw [x_binD, v3]
  simp only [R.bind_ok, x_frz, ev, Own.dat, ad, mo]
theorem e_near0 (h1 : M4 one) (h2 : M4 two) : F__law_near_lines ga [.str one, .str two] mu = .ok (.lst ((nearS one two).map D.str)) mu := by
  have w := w3_of h1 h2
  have hb : begS 4 [.str one, .str two] = [.dat (.str one), .dat (.str two), .non, .non] := rfl
  have hp : asgM wPair.den (gN 2) ⟨[.dat (.str one), .dat (.str two), .non, .non], mu⟩ = .ok .nx ⟨[.dat (.str one), .dat (.str two), .dat (.str (prL one two)), .non], mu⟩ := by
    have hs : Holds ⟨[.dat (.str one), .dat (.str two), .non, .non], mu⟩ (envW one two [] [] []) wPair.vs := fun i hi => by
      have : i = 0 ∨ i = 1 := by simpa [wPair, SE.vs] using hi
      rcases this with h | h
      · subst h; exact ⟨rfl, w.h0⟩
      · subst h; exact ⟨rfl, w.h1⟩
    have ev := e_se wPair hs (by decide +kernel) (by decide +kernel)
    unfold asgM mb
    rw [ev]
    rfl
  have hf : asgM (frz (lstM (argsS n1))) (gN 3) ⟨[.dat (.str one), .dat (.str two), .dat (.str (prL one two)), .non], mu⟩ = .ok .nx (stN one two (prL one two) (nL one two n1) mu) := by
    have hv : n1.all (fun e => e.vs.all fun i => decide (i < 3)) = true := by decide +kernel
    have ev := e_lstS (s := ⟨[.dat (.str one), .dat (.str two), .dat (.str (prL one two)), .non], mu⟩) (env := envW one two (prL one two) [] []) (es := n1) ⟨by decide +kernel, fun e he => holdsN w fun i hi => of_decide_eq_true (List.all_eq_true.mp (List.all_eq_true.mp hv e he) i hi), by decide⟩
    unfold asgM mb
    rw [x_frz, ev]
    rfl
  have len : ∀ es : List SE, (nL one two es).length = es.length := fun es => by unfold nL; rw [List.length_map]
  have st : ∀ (es : List SE) (acc : List (List Nat)), es.all (fun e => e.ok && decide (e.lb ≤ 1000000)) = true → es.all (fun e => e.vs.all fun i => decide (i < 3)) = true → es.length ≤ 1000 → acc.length ≤ 10000 →
      asgM (binD addA (vr 3) (frz (lstM (argsS es)))) (gN 3) (stN one two (prL one two) acc mu) = .ok .nx (stN one two (prL one two) (acc ++ nL one two es) mu) := fun es acc ok hv hn ha => by
    have e := addN (mu := mu) w es ok hv hn ha
    unfold asgM mb
    rw [e]
    rfl
  unfold F__law_near_lines
  rw [x_runB, hb, nl_eq]
  unfold nlM
  rw [x_sq, hp]; simp only [R.bind_ok]
  rw [x_sq, hf]; simp only [R.bind_ok]
  rw [x_sq, st n2 _ (by decide +kernel) (by decide +kernel) (by decide) (by simp only [List.length_append, len]; decide)]; simp only [R.bind_ok]
  rw [x_sq, st n3 _ (by decide +kernel) (by decide +kernel) (by decide) (by simp only [List.length_append, len]; decide)]; simp only [R.bind_ok]
  rw [x_sq, st n4 _ (by decide +kernel) (by decide +kernel) (by decide) (by simp only [List.length_append, len]; decide)]; simp only [R.bind_ok]
  rw [x_retM, addN w n5 (by decide +kernel) (by decide +kernel) (by decide) (by simp only [List.length_append, len]; decide)]
  simp only [R.bind_ok]
  rfl
end
end K02
end
section -- Q2H
set_option Elab.async false
set_option linter.all false
set_option maxRecDepth 100000
set_option maxHeartbeats 1000000
namespace K02
open PySem PySem.Spec L2 DL
variable {ga : Str → Addr}
def nearR (one two : List Nat) : List Lw := [⟨remarkC, one, [], 0, [], false, false⟩, ⟨quoteC, one, [], 0, one.take 1, false, false⟩, ⟨remarkC, one, two, 2, [], false, false⟩, ⟨remarkC, one, two, 4, [33], false, true⟩, ⟨remarkC, one, two, 0, [33], true, true⟩,
  ⟨remarkC, one, two, 0, [], true, false⟩, ⟨remarkC, one, two, 0, [], false, true⟩, ⟨quoteC, one, one, 0, [], false, false⟩, ⟨quoteC, one, one, 0, [], true, false⟩, ⟨remarkC, one, two, 3, [], false, true⟩, ⟨quoteC, one, two, 0, two.take 1, false, true⟩, ⟨remarkC, one, [63, 63, 63, 63], 0, [], false, false⟩]
theorem near_rules {one two : List Nat} (h1 : one ≠ []) (h2 : two ≠ []) : nearS one two = (nearR one two).map ruleT := by
  have t1 : one.take 1 ≠ [] := by
    cases one with
    | nil => exact absurd rfl h1
    | cons a r => exact List.cons_ne_nil _ _
  have t2 : two.take 1 ≠ [] := by
    cases two with
    | nil => exact absurd rfl h2
    | cons a r => exact List.cons_ne_nil _ _
  have d0 : ∀ n : Int, (if (0 : Int) < 0 then [nestedC, digC n] else []) = ([] : List (List Nat)) := fun n => rfl
  simp only [nearS, nL, n1, n2, n3, n4, n5, nearR, List.map, SE.val, envW, prL, wPair, ruleT, wordsL, List.append_assoc, if_pos h2, if_pos h1, if_pos t1, if_pos t2]
  rfl
theorem lws {one cl esc : List Nat} {k : List Nat} {n : Int} {d l : Bool} (ha : Mk4 one) (hk : k = remarkC ∨ k = quoteC) (hc : cl.length ≤ 4) (hc2 : ∀ c ∈ cl, c ∈ mkS) (hn : n = 0 ∨ (2 ≤ n ∧ n ≤ 4 ∧ k = remarkC ∧ cl ≠ [] ∧ cl ≠ one ∧ d = false)) (he : esc = [] ∨ ∃ c, esc = [c]) (he2 : ∀ c ∈ esc, c ∈ mkS)
    (hd : d = true → cl ≠ []) (hl : l = true → cl ≠ []) : LwS ⟨k, one, cl, n, esc, d, l⟩ :=
  ⟨⟨hk, by
    have := ha.ne
    cases one with
    | nil => exact absurd rfl this
    | cons a r => simp, ha.le, hc, hn, he, hd, hl⟩, ha.all, hc2, he2⟩
theorem tk1 {m : List Nat} (h : Mk4 m) : (m.take 1 = [] ∨ ∃ c, m.take 1 = [c]) ∧ ∀ c ∈ m.take 1, c ∈ mkS := by
  refine ⟨?_, fun c hc => h.all c (List.mem_of_mem_take hc)⟩
  cases m with
  | nil => exact .inl rfl
  | cons a r => exact .inr ⟨a, rfl⟩
theorem near_ok {one two : List Nat} (ha : Mk4 one) (hb : Mk4 two) (hne : two ≠ one) : ∀ l ∈ nearR one two, LwS l ∧ l.mark = one := by
  obtain ⟨a1, a2⟩ := tk1 ha
  obtain ⟨b1, b2⟩ := tk1 hb
  have e0 : ([] : List Nat) = [] ∨ ∃ c, ([] : List Nat) = [c] := .inl rfl
  have x0 : ∀ c ∈ ([] : List Nat), c ∈ mkS := fun c hc => nomatch hc
  have x1 : ∀ c ∈ [33], c ∈ mkS := by rw [mkS_eq]; decide
  have e1 : [33] = ([] : List Nat) ∨ ∃ c, [33] = [c] := .inr ⟨33, rfl⟩
  have x4 : ∀ c ∈ [63, 63, 63, 63], c ∈ mkS := by rw [mkS_eq]; decide
  intro l hl
  simp only [nearR, List.mem_cons, List.not_mem_nil, or_false] at hl
  rcases hl with rfl | rfl | rfl | rfl | rfl | rfl | rfl | rfl | rfl | rfl | rfl | rfl
  · exact ⟨lws ha (.inl rfl) (by decide) x0 (.inl rfl) e0 x0 (fun z => nomatch z) (fun z => nomatch z), rfl⟩
  · exact ⟨lws ha (.inr rfl) (by decide) x0 (.inl rfl) a1 a2 (fun z => nomatch z) (fun z => nomatch z), rfl⟩
  · exact ⟨lws ha (.inl rfl) hb.le hb.all (.inr ⟨by decide, by decide, rfl, hb.ne, hne, rfl⟩) e0 x0 (fun _ => hb.ne) (fun _ => hb.ne), rfl⟩
  · exact ⟨lws ha (.inl rfl) hb.le hb.all (.inr ⟨by decide, by decide, rfl, hb.ne, hne, rfl⟩) e1 x1 (fun _ => hb.ne) (fun _ => hb.ne), rfl⟩
  · exact ⟨lws ha (.inl rfl) hb.le hb.all (.inl rfl) e1 x1 (fun _ => hb.ne) (fun _ => hb.ne), rfl⟩
  · exact ⟨lws ha (.inl rfl) hb.le hb.all (.inl rfl) e0 x0 (fun _ => hb.ne) (fun _ => hb.ne), rfl⟩
  · exact ⟨lws ha (.inl rfl) hb.le hb.all (.inl rfl) e0 x0 (fun _ => hb.ne) (fun _ => hb.ne), rfl⟩
  · exact ⟨lws ha (.inr rfl) ha.le ha.all (.inl rfl) e0 x0 (fun _ => ha.ne) (fun _ => ha.ne), rfl⟩
  · exact ⟨lws ha (.inr rfl) ha.le ha.all (.inl rfl) e0 x0 (fun _ => ha.ne) (fun _ => ha.ne), rfl⟩
  · exact ⟨lws ha (.inl rfl) hb.le hb.all (.inr ⟨by decide, by decide, rfl, hb.ne, hne, rfl⟩) e0 x0 (fun _ => hb.ne) (fun _ => hb.ne), rfl⟩
  · exact ⟨lws ha (.inr rfl) hb.le hb.all (.inl rfl) b1 b2 (fun _ => hb.ne) (fun _ => hb.ne), rfl⟩
  · exact ⟨lws ha (.inl rfl) (by decide) x4 (.inl rfl) e0 x0 (fun z => nomatch z) (fun z => nomatch z), rfl⟩
/-- the second rule with a mark -/
def againR (m : List Nat) : Lw := ⟨quoteC, m, [46], 0, [], false, false⟩
theorem again_ok {m : List Nat} (h : Mk4 m) : LwS (againR m) := lws h (.inr rfl) (by decide) (by rw [mkS_eq]; decide) (.inl rfl) (.inl rfl) (fun c hc => nomatch hc) (fun z => nomatch z) (fun z => nomatch z)
theorem again_text (m : List Nat) : ruleT (againR m) = cs "quote " ++ (m ++ cs " to .") := by
  simp only [ruleT, wordsL, againR]
  rfl
theorem rule_good {l : Lw} (s : LwS l) : LineG (ruleT l) := (line_words (by rw [words_rest]; exact List.cons_ne_nil _ _) (words_len l) (words_ok s)).2
end K02
end
section -- LF_k02
set_option Elab.async false
set_option linter.all false
set_option maxRecDepth 100000
set_option maxHeartbeats 1000000
namespace K02
open PySem PySem.Spec L2 DL
variable {ga : Str → Addr}
def nA (ga : Str → Addr) : M Fl := (asgM (callN 2 (F__law_pick ga) [] (aCons (vr 0) (aCons (frz (lstM (aCons (mret (D.str (cs "remark"))) (aCons (mret (D.str (cs "remark"))) (aCons (mret (D.str (cs "quote"))) aNil))))) aNil))) (gN 4))
def nB (ga : Str → Addr) : M Fl := (parDD 5 6 (callN 2 (F__law_draw ga) [] (aCons (vr 0) (aCons (mret (D.int 8)) aNil))) (callN 3 (F__law_new_mark ga) [] (aCons (vr 0) (aCons (vr 2) (aCons (vr 3) aNil)))))
def nC : M Fl := (asgM (ifD (tstB (binD fLt (vr 5) (mret (D.int 2)))) (mret (D.str (cs ""))) (ifD (tstB (binD eqD (vr 5) (mret (D.int 2)))) (vr 1) (vr 6))) (gN 6))
def nD : M Fl := (asgM (andV (binD eqD (vr 4) (mret (D.str (cs "remark")))) (andV (binD neD (vr 6) (mret (D.str (cs "")))) (andV (binD neD (vr 6) (vr 1)) (binD (inA false) (vr 5) (tupM (aCons (mret (D.int 3)) (aCons (mret (D.int 4)) aNil))))))) (gN 7))
def nE (ga : Str → Addr) : M Fl := (asgM (ifD (tstB (binD eqD (callN 2 (F__law_draw ga) [] (aCons (vr 0) (aCons (mret (D.int 4)) aNil))) (mret (D.int 0)))) (callN 2 (F__law_pick ga) [] (aCons (vr 0) (aCons (vr 2) aNil))) (mret (D.str (cs "")))) (gN 8))
def nF : M Fl := (asgM (andV (binD neD (vr 6) (mret (D.str (cs "")))) (andV (notV (vr 7)) (binD (inA false) (vr 5) (tupM (aCons (mret (D.int 2)) (aCons (mret (D.int 5)) aNil)))))) (gN 9))
def nG (ga : Str → Addr) : M Fl := (asgM (andV (binD neD (vr 6) (mret (D.str (cs "")))) (binD eqD (callN 2 (F__law_draw ga) [] (aCons (vr 0) (aCons (mret (D.int 4)) aNil))) (mret (D.int 0)))) (gN 10))
def nH (ga : Str → Addr) : M Fl := (retM (tupM (aCons (vr 4) (aCons (vr 1) (aCons (vr 6) (aCons (ifD (tstD (vr 7)) (binD addA (mret (D.int 2)) (callN 2 (F__law_draw ga) [] (aCons (vr 0) (aCons (mret (D.int 3)) aNil)))) (mret (D.int 0))) (aCons (vr 8) (aCons (vr 9) (aCons (vr 10) aNil)))))))))
structure Nr where
  mark : List Nat
  signs : List Nat
  most : Nat
def nS (r : Nr) (k w c n e d l : Sl) (p : Pen) : S := ⟨[.dat (.shr 0), .dat (.str r.mark), .dat (.lst (r.signs.map encC)), .dat (.int (r.most : Int)), k, w, c, n, e, d, l], [encPen p]⟩
section
variable {r : Nr} {k w c n e d l : Sl} {p : Pen}
theorem e_nA (ht : p.turn < 800000000) : ∃ (x : List Nat) (q : Pen), nA ga (nS r k w c n e d l p) = .ok .nx (nS r (.dat (.str x)) w c n e d l q) ∧ (x = remarkC ∨ x = quoteC) ∧ q.turn ≤ p.turn + 1 := by
  obtain ⟨x, q, h, h1, h2, h3⟩ := e_pick (ga := ga) (enc := D.str) [cs "remark", cs "remark", cs "quote"] p (by simp) (by simp) (by omega) (fun _ _ => rfl)
  simp only [List.map_cons, List.map_nil] at h
  refine ⟨x, q, ?_, ?_, h3⟩
  · unfold nA nS
    simp -implicitDefEqProofs -dsimp [h]
  · simp only [List.mem_cons, List.not_mem_nil, or_false, remark_cs, quote_cs] at h1
    rcases h1 with h | h | h <;> simp [h]
theorem e_nB (h0 : 0 < r.signs.length) (h1 : r.signs.length < 1000) (hm : 0 < r.most) (hm2 : r.most < 1000) (ht : p.turn < 800000000) : ∃ (v : Nat) (m : List Nat) (q : Pen), nB ga (nS r k w c n e d l p) = .ok .nx (nS r k (.dat (.int (v : Int))) (.dat (.str m)) n e d l q) ∧ 1 ≤ m.length ∧ m.length ≤ r.most ∧ (∀ c ∈ m, c ∈ r.signs) ∧ q.turn ≤ p.turn + 1002 := by
  obtain ⟨v, q1, e1, _, _, t1⟩ := e_draw (ga := ga) p 8 (by omega) (by omega) (by omega)
  obtain ⟨m, q, e2, m1, m2, m3, t2⟩ := e_new_mark (ga := ga) r.signs r.most q1 h0 h1 hm hm2 (by omega)
  refine ⟨v, m, q, ?_, m1, m2, m3, by omega⟩
  have e1' : F__law_draw ga [.shr 0, .int 8] [encPen p] = .ok (.int (v : Int)) [encPen q1] := e1
  unfold nB nS
  simp -implicitDefEqProofs -dsimp [e1', e2]
def clN (mark m : List Nat) (v : Nat) : List Nat := if v < 2 then [] else if v = 2 then mark else m
theorem e_nC (v : Nat) (m : List Nat) : nC (nS r k (.dat (.int (v : Int))) (.dat (.str m)) n e d l p) = .ok .nx (nS r k (.dat (.int (v : Int))) (.dat (.str (clN r.mark m v))) n e d l p) := by
  unfold nC nS clN
  by_cases c1 : v < 2
  · have c1' : (v : Int) < 2 := by omega
    simp -implicitDefEqProofs -dsimp [c1, c1']
  · have c1' : ¬ (v : Int) < 2 := by omega
    by_cases c2 : v = 2
    · subst c2
      simp -implicitDefEqProofs -dsimp
    · have c2' : ¬ (v : Int) = 2 := by omega
      simp -implicitDefEqProofs -dsimp [c1, c1', c2, c2']
theorem in_two (s : S) (v a b : Int) : inA false s (.int v) (.tup [.int a, .int b]) = some (.bl (a == v || b == v)) := by
  have : inD false s (.int v) (.tup [.int a, .int b]) = some (.bl (a == v || (b == v || false))) := rfl
  unfold inA
  rw [this, Bool.or_false]
def neN (x mark cl : List Nat) (v : Nat) : Bool := decide (x = remarkC) && (!decide (cl = []) && (!decide (cl = mark) && ((3 : Int) == (v : Int) || (4 : Int) == (v : Int))))
theorem e_nD (x cl : List Nat) (v : Nat) : nD (nS r (.dat (.str x)) (.dat (.int (v : Int))) (.dat (.str cl)) n e d l p) = .ok .nx (nS r (.dat (.str x)) (.dat (.int (v : Int))) (.dat (.str cl)) (.dat (.bl (neN x r.mark cl v))) e d l p) := by
  have hr := remark_cs
  unfold nD nS neN
  by_cases c1 : x = remarkC
  · by_cases c2 : cl = []
    · simp -implicitDefEqProofs -dsimp [hr, c1, c2]
    · by_cases c3 : cl = r.mark
      · simp -implicitDefEqProofs -dsimp [hr, c1, c2, c3]
      · simp -implicitDefEqProofs -dsimp [hr, c1, c2, c3, in_two]
  · simp -implicitDefEqProofs -dsimp [hr, c1]
theorem e_nE (h0 : 0 < r.signs.length) (h1 : r.signs.length < 1000) (ht : p.turn < 800000000) : ∃ (x : List Nat) (q : Pen), nE ga (nS r k w c n e d l p) = .ok .nx (nS r k w c n (.dat (.str x)) d l q) ∧ (x = [] ∨ ∃ c, x = [c] ∧ c ∈ r.signs) ∧ q.turn ≤ p.turn + 2 := by
  obtain ⟨v, q1, e1, _, _, t1⟩ := e_draw (ga := ga) p 4 (by omega) (by omega) (by omega)
  have e1' : F__law_draw ga [.shr 0, .int 4] [encPen p] = .ok (.int (v : Int)) [encPen q1] := e1
  by_cases c1 : v = 0
  · obtain ⟨x, q, e2, x1, _, t2⟩ := e_pick (ga := ga) (enc := encC) r.signs q1 h0 (by omega) (by omega) (fun _ _ => rfl)
    have e2' : F__law_pick ga [.shr 0, .lst (r.signs.map encC)] [encPen q1] = .ok (.str [x]) [encPen q] := e2
    refine ⟨[x], q, ?_, .inr ⟨x, rfl, x1⟩, by omega⟩
    subst c1
    unfold nE nS
    simp -implicitDefEqProofs -dsimp [e1', e2']
  · have c1' : ¬ (v : Int) = 0 := by omega
    refine ⟨[], q1, ?_, .inl rfl, by omega⟩
    unfold nE nS
    simp -implicitDefEqProofs -dsimp [e1', c1', c1]
def dbN (cl : List Nat) (ne : Bool) (v : Nat) : Bool := !decide (cl = []) && (!ne && ((2 : Int) == (v : Int) || (5 : Int) == (v : Int)))
theorem e_nF (cl : List Nat) (ne : Bool) (v : Nat) : nF (nS r k (.dat (.int (v : Int))) (.dat (.str cl)) (.dat (.bl ne)) e d l p) = .ok .nx (nS r k (.dat (.int (v : Int))) (.dat (.str cl)) (.dat (.bl ne)) e (.dat (.bl (dbN cl ne v))) l p) := by
  unfold nF nS dbN
  by_cases c2 : cl = []
  · simp -implicitDefEqProofs -dsimp [c2]
  · cases ne with
    | true => simp -implicitDefEqProofs -dsimp [c2]
    | false => simp -implicitDefEqProofs -dsimp [c2, in_two]
theorem e_nG (cl : List Nat) (ht : p.turn < 800000000) : ∃ (b : Bool) (q : Pen), nG ga (nS r k w (.dat (.str cl)) n e d l p) = .ok .nx (nS r k w (.dat (.str cl)) n e d (.dat (.bl b)) q) ∧ (b = true → cl ≠ []) ∧ q.turn ≤ p.turn + 1 := by
  by_cases c2 : cl = []
  · refine ⟨false, p, ?_, (fun z => by cases z), by omega⟩
    unfold nG nS
    simp -implicitDefEqProofs -dsimp [c2]
  · obtain ⟨v, q1, e1, _, _, t1⟩ := e_draw (ga := ga) p 4 (by omega) (by omega) (by omega)
    have e1' : F__law_draw ga [.shr 0, .int 4] [encPen p] = .ok (.int (v : Int)) [encPen q1] := e1
    refine ⟨decide ((v : Int) = 0), q1, ?_, fun _ => c2, by omega⟩
    unfold nG nS
    simp -implicitDefEqProofs -dsimp [c2, e1']
theorem e_nH (x cl es : List Nat) (ne db li : Bool) (ht : p.turn < 800000000) : ∃ (dp : Int) (s : S) (q : Pen), nH ga (nS r (.dat (.str x)) w (.dat (.str cl)) (.dat (.bl ne)) (.dat (.str es)) (.dat (.bl db)) (.dat (.bl li)) p) = .ok (.rt (encL ⟨x, r.mark, cl, dp, es, db, li⟩)) s ∧ s.mu = [encPen q] ∧ (ne = false → dp = 0) ∧ (ne = true → 2 ≤ dp ∧ dp ≤ 4) ∧ q.turn ≤ p.turn + 1 := by
  cases ne with
  | true =>
    obtain ⟨v, q1, e1, v1, _, t1⟩ := e_draw (ga := ga) p 3 (by omega) (by omega) (by omega)
    have e1' : F__law_draw ga [.shr 0, .int 3] [encPen p] = .ok (.int (v : Int)) [encPen q1] := e1
    refine ⟨2 + (v : Int), nS r (.dat (.str x)) w (.dat (.str cl)) (.dat (.bl true)) (.dat (.str es)) (.dat (.bl db)) (.dat (.bl li)) q1, q1, ?_, rfl, (fun z => by cases z), (fun _ => by omega), by omega⟩
    unfold nH nS encL
    simp -implicitDefEqProofs -dsimp [e1']
  | false =>
    refine ⟨0, nS r (.dat (.str x)) w (.dat (.str cl)) (.dat (.bl false)) (.dat (.str es)) (.dat (.bl db)) (.dat (.bl li)) p, p, ?_, rfl, (fun _ => rfl), (fun z => by cases z), by omega⟩
    unfold nH nS encL
    simp -implicitDefEqProofs -dsimp
end
/-- a rule that is drawn -/
theorem e_new_rule (mark signs : List Nat) (p : Pen) (h0 : 0 < signs.length) (h1 : signs.length < 1000) (hs : ∀ c ∈ signs, c ∈ mkS) (m1 : 1 ≤ mark.length) (m4 : mark.length ≤ 4) (hm : ∀ c ∈ mark, c ∈ mkS) (ht : p.turn < 700000000) :
    ∃ (l : Lw) (q : Pen), F__law_new_rule ga [.shr 0, .str mark, .lst (signs.map encC), .int 4] [encPen p] = .ok (encL l) [encPen q] ∧ LwS l ∧ l.mark = mark ∧ q.turn ≤ p.turn + 1010 := by
  obtain ⟨r, hr⟩ : ∃ r : Nr, r = ⟨mark, signs, 4⟩ := ⟨_, rfl⟩
  have hb : (⟨begS 11 [.shr 0, .str mark, .lst (signs.map encC), .int 4], [encPen p]⟩ : S) = nS r .non .non .non .non .non .non .non p := by rw [hr]; rfl
  have hM : m__law_new_rule ga = sq (nA ga) (sq (nB ga) (sq nC (sq nD (sq (nE ga) (sq nF (sq (nG ga) (nH ga))))))) := rfl
  have rs : r.signs = signs := by rw [hr]
  have rm : r.mark = mark := by rw [hr]
  have r4 : r.most = 4 := by rw [hr]
  obtain ⟨x, q1, a1, a2, a3⟩ := e_nA (ga := ga) (r := r) (k := .non) (w := .non) (c := .non) (n := .non) (e := .non) (d := .non) (l := .non) (p := p) (by omega)
  obtain ⟨v, m, q2, b1, b2, b3, b4, b5⟩ := e_nB (ga := ga) (r := r) (k := .dat (.str x)) (w := .non) (c := .non) (n := .non) (e := .non) (d := .non) (l := .non) (p := q1) (by rw [rs]; exact h0) (by rw [rs]; exact h1) (by omega) (by omega) (by omega)
  have c1 := e_nC (r := r) (k := .dat (.str x)) (n := .non) (e := .non) (d := .non) (l := .non) (p := q2) v m
  have d1 := e_nD (r := r) (n := .non) (e := .non) (d := .non) (l := .non) (p := q2) x (clN r.mark m v) v
  obtain ⟨cl, hcl⟩ : ∃ cl, cl = clN r.mark m v := ⟨_, rfl⟩
  obtain ⟨ne, hne⟩ : ∃ ne, ne = neN x r.mark cl v := ⟨_, rfl⟩
  rw [← hcl] at c1 d1
  rw [← hne] at d1
  obtain ⟨es, q3, e1, e2, e3⟩ := e_nE (ga := ga) (r := r) (k := .dat (.str x)) (w := .dat (.int (v : Int))) (c := .dat (.str cl)) (n := .dat (.bl ne)) (e := .non) (d := .non) (l := .non) (p := q2) (by rw [rs]; exact h0) (by rw [rs]; exact h1) (by omega)
  have f1 := e_nF (r := r) (k := .dat (.str x)) (e := .dat (.str es)) (d := .non) (l := .non) (p := q3) cl ne v
  obtain ⟨db, hdb⟩ : ∃ db, db = dbN cl ne v := ⟨_, rfl⟩
  rw [← hdb] at f1
  obtain ⟨li, q4, g1, g2, g3⟩ := e_nG (ga := ga) (r := r) (k := .dat (.str x)) (w := .dat (.int (v : Int))) (n := .dat (.bl ne)) (e := .dat (.str es)) (d := .dat (.bl db)) (l := .non) (p := q3) cl (by omega)
  obtain ⟨dp, s, q5, k1, k2, k3, k4, k5⟩ := e_nH (ga := ga) (r := r) (w := .dat (.int (v : Int))) (p := q4) x cl es ne db li (by omega)
  refine ⟨⟨x, r.mark, cl, dp, es, db, li⟩, q5, ?_, ?_, rm, by omega⟩
  · unfold F__law_new_rule
    rw [x_runB, hb, hM, x_sq, a1]
    simp only [R.bind_ok]
    rw [x_sq, b1]
    simp only [R.bind_ok]
    rw [x_sq, c1]
    simp only [R.bind_ok]
    rw [x_sq, d1]
    simp only [R.bind_ok]
    rw [x_sq, e1]
    simp only [R.bind_ok]
    rw [x_sq, f1]
    simp only [R.bind_ok]
    rw [x_sq, g1]
    simp only [R.bind_ok]
    rw [k1]
    simp only [k2]
  · have ml : ∀ c ∈ m, c ∈ mkS := fun c hc => hs c (by rw [← rs]; exact b4 c hc)
    have cls : cl.length ≤ 4 ∧ ∀ c ∈ cl, c ∈ mkS := by
      rw [hcl]
      unfold clN
      split
      · simp
      · split
        · rw [rm]; exact ⟨m4, hm⟩
        · exact ⟨by omega, ml⟩
    refine ⟨⟨a2, by rw [rm]; exact m1, by rw [rm]; exact m4, cls.1, ?_, ?_, ?_, g2⟩, by rw [rm]; exact hm, cls.2, ?_⟩
    · cases hn : ne with
      | false => left; exact k3 hn
      | true =>
        right
        obtain ⟨p1, p2⟩ := k4 hn
        have h := hne
        rw [hn] at h
        unfold neN at h
        have h := h.symm
        simp only [Bool.and_eq_true, decide_eq_true_eq, Bool.not_eq_true', decide_eq_false_iff_not] at h
        refine ⟨p1, p2, h.1, h.2.1, h.2.2.1, ?_⟩
        rw [hdb, hn]
        unfold dbN
        simp
    · rcases e2 with h | ⟨c, h, _⟩
      · left; exact h
      · right; exact ⟨c, h⟩
    · intro z
      have h := hdb
      rw [show db = true from z] at h
      unfold dbN at h
      have h := h.symm
      simp only [Bool.and_eq_true, Bool.not_eq_true', decide_eq_false_iff_not] at h
      exact h.1
    · rcases e2 with h | ⟨c, h, h2⟩
      · intro c hc
        have : es = [] := h
        rw [show (⟨x, r.mark, cl, dp, es, db, li⟩ : Lw).esc = es from rfl, this] at hc
        cases hc
      · intro c' hc
        have : es = [c] := h
        rw [show (⟨x, r.mark, cl, dp, es, db, li⟩ : Lw).esc = es from rfl, this] at hc
        simp at hc
        rw [hc]
        exact hs c (by rw [← rs]; exact h2)
end K02
end
section -- Q2I
set_option Elab.async false
set_option linter.all false
set_option maxRecDepth 100000
set_option maxHeartbeats 1000000
namespace K02
open PySem PySem.Spec L2 DL
variable {ga : Str → Addr}
theorem e_mark_signs (mu : List Own) : F__law_mark_signs ga [] mu = .ok (.lst (mkS.map encC)) mu := by
  have h : ∀ s, listA s [.str (cs "!\"#$&'()*+,-./:;<=>?@\x5b\\]^`{|}~")] = some (.lst (mkS.map encC)) := fun s => by
    have l : (cs "!\"#$&'()*+,-./:;<=>?@\x5b\\]^`{|}~").length ≤ sizeLine := by show mkS.length ≤ sizeLine; rw [mkS_eq]; decide
    unfold listA
    simp only
    rw [if_pos l]
    rfl
  unfold F__law_mark_signs
  rw [x_runB]
  unfold m__law_mark_signs
  simp -implicitDefEqProofs -dsimp [h]
theorem erase_map {α β : Type} (f : α → β) : ∀ (xs : List α) (n : Nat), (xs.map f).eraseIdx n = (xs.eraseIdx n).map f
  | [], n => by simp
  | x :: xs, 0 => rfl
  | x :: xs, n + 1 => by simp [erase_map f xs n]
def popE (x : D) (ys : List D) (s : S) : R D := match ys, ow s x with
  | [.int i], some (.lst xs) => if -(2 ^ 62) < i ∧ i < 2 ^ 62 then match seqIndex? i xs.length with
    | some j => match xs[j]? with
      | some z => .ok z (putO s x (.lst (xs.eraseIdx j)))
      | none => .bad
    | none => .bad else .bad
  | _, _ => .bad
@[simp] theorem x_popAtM (m : M D) (ma : M (List D)) (s : S) : popAtM m ma s = (m s).bind fun x s => (mo (rdL s x) s).bind fun _ s => (ma s).bind fun ys s => popE x ys s := rfl
theorem popE_loc {s : S} {i n : Nat} {xs : List D} {z : D} (h : s.sl[i]? = some (.own (.lst xs))) (hz : xs[n]? = some z) (hn : n < 1000000) : popE (.loc i) [.int (n : Int)] s = .ok z { s with sl := s.sl.set i (.own (.lst (xs.eraseIdx n))) } := by
  have hl := (List.getElem?_eq_some_iff.mp hz).1
  have e : seqIndex? (n : Int) xs.length = some n := by
    have c : ¬ ((n : Int) < 0) := by omega
    unfold seqIndex?
    simp [c, hl]
  unfold popE ow
  simp only [h]
  rw [if_pos ⟨by omega, by omega⟩, e]
  simp only [hz]
  rfl
/-- range(n), its items -/
theorem rng1 {ma : M (List D)} {s s' : S} {n : Nat} (h : ma s = .ok [.int (n : Int)] s') (hn : n < 1000000) : rngM1 ma s = .ok (rngL 0 n) s' := by
  have c : -(2 ^ 62) ≤ (n : Int) ∧ (n : Int) < 2 ^ 62 := by constructor <;> omega
  unfold rngM1
  simp -implicitDefEqProofs -dsimp only [x_mb, h, R.bind_ok, x_mopt, c, and_self, if_true, mo_some, Int.toNat_natCast]
theorem rngL_len (lo : Int) (n : Nat) : (rngL lo n).length = n := by simp [rngL]
theorem ne_nilL {s : S} {i : Nat} {xs : List D} (hs : s.sl[i]? = some (.own (.lst xs))) (h : okPys xs 59 = true) : neD s (.loc i) (.lst []) = some (.bl (!xs.isEmpty)) := by
  have d1 : dd s (.loc i) = some (.lst xs) := by
    unfold dd
    simp only
    rw [hs]
    rfl
  have e := ne_nil (s := s) h
  have z : ∀ a : D, neD s (.lst xs) a = neD s (.lst xs) a := fun _ => rfl
  have e1 : neD s (.loc i) (.lst []) = deepD true s (.loc i) (.lst []) := rfl
  have e2 : neD s (.lst xs) (.lst []) = deepD true s (.lst xs) (.lst []) := rfl
  rw [e1]
  rw [e2] at e
  unfold deepD at e ⊢
  rw [d1]
  exact e
def shBody (ga : Str → Addr) : M Fl := (dropM (apM (vr 3) (aCons (popAtM (vr 2) (aCons (callN 2 (F__law_draw ga) [] (aCons (vr 0) (aCons (calM lenD (aCons (vr 2) aNil)) aNil))) aNil)) aNil)))
def shT : M Bool := (tstB (binD neD (vr 2) (frz (lstM aNil))))
def shS (items : D) (rest found : List Nat) (p : Pen) : S := ⟨[.dat (.shr 0), .dat items, .own (.lst (rest.map encC)), .own (.lst (found.map encC))], [encPen p]⟩
theorem e_shBody (items : D) (rest found : List Nat) (p : Pen) (h0 : 0 < rest.length) (h1 : rest.length < 1000) (h2 : found.length < 1000) (ht : p.turn < 900000000) :
    ∃ (n : Nat) (hn : n < rest.length) (q : Pen), shBody ga (shS items rest found p) = .ok .nx (shS items (rest.eraseIdx n) (found ++ [rest[n]]) q) ∧ q.turn ≤ p.turn + 1 := by
  have hz : (1000000 : Nat) ≤ sizeLine := by decide
  obtain ⟨n, q, e, e1, e2, e3⟩ := e_draw (ga := ga) p rest.length h0 (by omega) (by omega)
  refine ⟨n, e1, q, ?_, e3⟩
  have hg : (rest.map encC)[n]? = some (encC rest[n]) := by rw [List.getElem?_map, List.getElem?_eq_getElem e1]; rfl
  have pp : ∀ sl, popE (.loc 2) [.int (n : Int)] ⟨[.dat (.shr 0), .dat items, .own (.lst (rest.map encC)), .own (.lst (found.map encC))], sl⟩ = .ok (encC rest[n]) ⟨[.dat (.shr 0), .dat items, .own (.lst ((rest.eraseIdx n).map encC)), .own (.lst (found.map encC))], sl⟩ := fun sl => by
    rw [popE_loc (i := 2) rfl hg (by omega), erase_map]
    rfl
  have l1 : found.length < sizeLine := by omega
  have fz : ∀ s, fz (encC rest[n]) s = .ok (encC rest[n]) s := fun _ => rfl
  unfold shBody shS
  simp -implicitDefEqProofs -dsimp [e, pp, fz, l1]
theorem okC (xs : List Nat) (h : ∀ c ∈ xs, c < 256) : okPys (xs.map encC) 59 = true := okPys_map fun c hc => by
  have := h c hc
  show okPy (.str [c]) 59 = true
  unfold okPy
  simp; omega
theorem e_shT (items : D) (rest found : List Nat) (p : Pen) (h : ∀ c ∈ rest, c < 256) : shT (shS items rest found p) = .ok (!rest.isEmpty) (shS items rest found p) := by
  have e : neD (shS items rest found p) (.loc 2) (.lst []) = some (.bl (!(rest.map encC).isEmpty)) := ne_nilL rfl (okC rest h)
  have e2 : (rest.map encC).isEmpty = rest.isEmpty := by cases rest <;> rfl
  rw [e2] at e
  have hz : (0 : Nat) ≤ sizeLine := Nat.zero_le _
  have v2 : vr 2 (shS items rest found p) = .ok (.loc 2) (shS items rest found p) := rfl
  have l0 : lstM aNil (shS items rest found p) = .ok (.lst []) (shS items rest found p) := rfl
  unfold shT tstB mb binD mb mopt
  rw [v2]
  simp only [R.bind_ok, x_frz, l0, Own.dat, e]
  rfl
theorem perm_erase : ∀ (xs : List Nat) (n : Nat) (h : n < xs.length), (xs[n] :: xs.eraseIdx n).Perm xs
  | [], _, h => absurd h (Nat.not_lt_zero _)
  | x :: xs, 0, _ => List.Perm.refl _
  | x :: xs, n + 1, h => (List.Perm.swap x _ _).trans (List.Perm.cons x (perm_erase xs n (Nat.lt_of_succ_lt_succ h)))
theorem e_shLoop (items : D) : ∀ (n : Nat) (rest found : List Nat) (p : Pen), rest.length < n → (∀ c ∈ rest, c < 256) → rest.length < 1000 → found.length + rest.length < 1000 → p.turn + rest.length < 900000000 →
    ∃ (ys : List Nat) (q : Pen), whlM shT (shBody ga) n (shS items rest found p) = .ok .nx (shS items [] (found ++ ys) q) ∧ ys.Perm rest ∧ q.turn ≤ p.turn + rest.length
  | 0, _, _, _, h, _, _, _, _ => absurd h (Nat.not_lt_zero _)
  | n + 1, rest, found, p, hn, hc, h1, h2, h3 => by
    rw [x_whl, e_shT items rest found p hc]
    simp only [R.bind_ok]
    cases q : rest with
    | nil => exact ⟨[], p, by simp, List.Perm.refl _, by simp⟩
    | cons a r =>
      have h0 : 0 < rest.length := by rw [q]; simp
      obtain ⟨i, hi, p1, e, ht⟩ := e_shBody (ga := ga) items rest found p h0 h1 (by omega) (by omega)
      have le : (rest.eraseIdx i).length = rest.length - 1 := List.length_eraseIdx_of_lt hi
      obtain ⟨ys, p2, f, f1, f2⟩ := e_shLoop items n (rest.eraseIdx i) (found ++ [rest[i]]) p1 (by omega) (fun c hc' => hc c (List.mem_of_mem_eraseIdx hc')) (by omega) (by simp; omega) (by omega)
      refine ⟨rest[i] :: ys, p2, ?_, ?_, by rw [← q]; omega⟩
      · rw [← q]
        have nz : (!rest.isEmpty) = true := by rw [q]; rfl
        rw [if_pos nz, e]
        simp only [R.bind_ok]
        rw [f, List.append_assoc]
        rfl
      · rw [← q]
        exact (List.Perm.cons _ f1).trans (perm_erase rest i hi)
end K02
end
section -- Q2J
set_option Elab.async false
set_option linter.all false
set_option maxRecDepth 100000
set_option maxHeartbeats 1000000
namespace K02
open PySem PySem.Spec L2 DL
variable {ga : Str → Addr}
theorem e_shuffled (xs : List Nat) (p : Pen) (hc : ∀ c ∈ xs, c < 256) (hx : xs.length < 500) (ht : p.turn < 800000000) :
    ∃ (ys : List Nat) (q : Pen), F__law_shuffled ga [.shr 0, .lst (xs.map encC)] [encPen p] = .ok (.lst (ys.map encC)) [encPen q] ∧ ys.Perm xs ∧ q.turn ≤ p.turn + xs.length := by
  obtain ⟨ys, q, e, e1, e2⟩ := e_shLoop (ga := ga) (.lst (xs.map encC)) fuel xs [] p (by unfold fuel; omega) hc (by omega) (by simp; omega) (by omega)
  refine ⟨ys, q, ?_, e1, e2⟩
  have hm : m__law_shuffled ga = sq (parFE 2 3 (calF listA (aCons (vr 1) aNil))) (sq (whlM shT (shBody ga) fuel) (retM (vr 3))) := rfl
  have hb : begS 4 [.shr 0, .lst (xs.map encC)] = [.dat (.shr 0), .dat (.lst (xs.map encC)), .non, .non] := rfl
  have la : ∀ s, listA s [.lst (xs.map encC)] = some (.lst (xs.map encC)) := fun _ => rfl
  have hA : parFE 2 3 (calF listA (aCons (vr 1) aNil)) ⟨[.dat (.shr 0), .dat (.lst (xs.map encC)), .non, .non], [encPen p]⟩ = .ok .nx (shS (.lst (xs.map encC)) xs [] p) := by
    unfold shS
    simp -implicitDefEqProofs -dsimp [la]
  unfold F__law_shuffled
  rw [x_runB, hb, hm, x_sq, hA]
  simp only [R.bind_ok]
  rw [x_sq, e]
  simp only [R.bind_ok]
  unfold shS
  simp -implicitDefEqProofs -dsimp
end K02
end
section -- Q2K
set_option Elab.async false
set_option linter.all false
set_option maxRecDepth 100000
set_option maxHeartbeats 1000000
namespace K02
open PySem PySem.Spec L2 DL
variable {ga : Str → Addr}
/-! ### what is told of lists of rules -/
theorem map_lines {as : List Lw} (h : ∀ l ∈ as, LwS l) : (as.map ruleT).map lineM = (as.map toRl).map some := by
  rw [List.map_map, List.map_map]
  exact List.map_congr_left fun l hl => ruleT_line (h l hl)
theorem map_ops (as : List Lw) : (as.map toRl).map (·.op) = as.map (·.mark) := by rw [List.map_map]; rfl
theorem told_all {as : List Lw} (h : ∀ l ∈ as, LwS l) (nd : (as.map (·.mark)).Nodup) (hl : as.length ≤ 6) : toldM (as.map ruleT) = 0 :=
  told_right (map_lines h) (by rw [map_ops]; exact nd) (by rw [List.length_map]; exact hl)
theorem told_stop {as : List Lw} (h : ∀ l ∈ as, LwS l) (nd : (as.map (·.mark)).Nodup) (hl : as.length ≤ 6) {x : List Nat} {rest : List (List Nat)} (hx : lineM x = none ∨ as.length = 6 ∨ ∃ r, lineM x = some r ∧ r.op ∈ as.map (·.mark)) : toldM (as.map ruleT ++ x :: rest) = (as.length : Int) + 1 := by
  have e := told_bad (rest := rest) (map_lines h) (by rw [map_ops]; exact nd) (by rw [List.length_map]; exact hl) (x := x) (by rw [List.length_map, map_ops]; exact hx)
  rw [List.length_map] at e
  exact e
theorem told_many {as : List Lw} (h : ∀ l ∈ as, LwS l) (nd : (as.map (·.mark)).Nodup) (hl : 7 ≤ as.length) : toldM (as.map ruleT) = 7 := by
  have e : as.map ruleT = (as.take 6).map ruleT ++ ruleT (as[6]'(by omega)) :: (as.drop 7).map ruleT := by
    conv => lhs; rw [← List.take_append_drop 6 as, List.drop_eq_getElem_cons (show 6 < as.length by omega)]
    rw [List.map_append, List.map_cons]
  have l6 : (as.take 6).length = 6 := by rw [List.length_take]; omega
  rw [e, told_stop (fun l hl => h l (List.mem_of_mem_take hl)) (by rw [List.map_take]; exact (List.take_sublist 6 _).nodup nd) (by omega) (.inr (.inl l6)), l6]
  rfl
theorem line_nil : lineM [] = none := by decide +kernel
theorem rule_ne {l : Lw} (s : LwS l) : ruleT l ≠ [] := fun z => by
  have e := ruleT_line s
  rw [z, line_nil] at e
  cases e
theorem lines_ok {ls : List (List Nat)} (h : ∀ x ∈ ls, LineG x) (hl : ls.length ≤ 100) (ne : ls ≠ [[]]) : LinesOk ls := ⟨hl, fun x hx => ⟨(h x hx).ok, (h x hx).len, (h x hx).nn⟩, ne⟩
theorem lines_rules {as : List Lw} (h : ∀ l ∈ as, LwS l) (hl : as.length ≤ 100) : LinesOk (as.map ruleT) := by
  refine lines_ok (fun x hx => ?_) (by rw [List.length_map]; exact hl) fun z => ?_
  · obtain ⟨l, hl, rfl⟩ := List.mem_map.mp hx
    exact rule_good (h l hl)
  · cases as with
    | nil => cases z
    | cons a r =>
      rw [List.map_cons] at z
      exact rule_ne (h a (by simp)) (List.cons.inj z).1
/-- told, of rules -/
theorem e_told_all {as : List Lw} (mu : List Own) (h : ∀ l ∈ as, LwS l) (nd : (as.map (·.mark)).Nodup) (hl : as.length ≤ 6) : F__law_told ga [.lst ((as.map ruleT).map D.str)] mu = .ok (.int 0) mu := by
  rw [e_told (as.map ruleT) mu (lines_rules h (by omega)), told_all h nd hl]
theorem e_told_many {as : List Lw} (mu : List Own) (h : ∀ l ∈ as, LwS l) (nd : (as.map (·.mark)).Nodup) (hl : 7 ≤ as.length) (h9 : as.length ≤ 9) : F__law_told ga [.lst ((as.map ruleT).map D.str)] mu = .ok (.int 7) mu := by
  rw [e_told (as.map ruleT) mu (lines_rules h (by omega)), told_many h nd hl]
theorem e_told_stop {as : List Lw} (mu : List Own) (h : ∀ l ∈ as, LwS l) (nd : (as.map (·.mark)).Nodup) (hl : as.length ≤ 6) {x : List Nat} {rest : List (List Nat)} (hx : lineM x = none ∨ as.length = 6 ∨ ∃ r, lineM x = some r ∧ r.op ∈ as.map (·.mark))
    (gx : LineG x) (gr : ∀ y ∈ rest, LineG y) (hr : rest.length ≤ 20) (ne : as.map ruleT ++ x :: rest ≠ [[]]) : F__law_told ga [.lst ((as.map ruleT ++ x :: rest).map D.str)] mu = .ok (.int ((as.length : Int) + 1)) mu := by
  rw [e_told _ mu (lines_ok (fun y hy => ?_) (by simp; omega) ne), told_stop h nd hl hx]
  rcases List.mem_append.mp hy with hy | hy
  · obtain ⟨l, hl, rfl⟩ := List.mem_map.mp hy
    exact rule_good (h l hl)
  · rcases List.mem_cons.mp hy with hy | hy
    · rw [hy]; exact gx
    · exact gr y hy
/-! ### the law's rules -/
structure Rs9 (ms : List (List Nat)) (rs : List Lw) : Prop where
  ok : ∀ l ∈ rs, LwS l
  mks : rs.map (·.mark) = ms
  len : ms.length = 9
  nd : ms.Nodup
  m4 : ∀ m ∈ ms, Mk4 m
theorem Rs9.rl {ms : List (List Nat)} {rs : List Lw} (h : Rs9 ms rs) : rs.length = 9 := by rw [← h.len, ← h.mks, List.length_map]
/-- the lines of a turn: rules with unlike marks, and two more marks -/
structure Ln (as : List Lw) (one two : List Nat) : Prop where
  ok : ∀ l ∈ as, LwS l
  nd : (as.map (·.mark)).Nodup
  len : as.length ≤ 5
  h1 : Mk4 one
  h2 : Mk4 two
  ne : two ≠ one
  n1 : one ∉ as.map (·.mark)
theorem Rs9.ln {ms : List (List Nat)} {rs : List Lw} (h : Rs9 ms rs) (n : Nat) (hn : n ≤ 5) : ∃ one two, ms[7]? = some one ∧ ms[8]? = some two ∧ Ln (rs.take n) one two := by
  have l := h.len
  have h7 : 7 < ms.length := by omega
  have h8 : 8 < ms.length := by omega
  refine ⟨ms[7], ms[8], List.getElem?_eq_getElem h7, List.getElem?_eq_getElem h8, ⟨fun l hl => h.ok l (List.mem_of_mem_take hl), ?_, ?_, h.m4 _ (List.getElem_mem h7), h.m4 _ (List.getElem_mem h8), ?_, ?_⟩⟩
  · rw [List.map_take, h.mks]
    exact (List.take_sublist n _).nodup h.nd
  · rw [List.length_take]; omega
  · intro z
    have := (List.getElem_inj h.nd).mp z
    omega
  · rw [List.map_take, h.mks]
    intro z
    obtain ⟨i, hi, e⟩ := List.mem_take_iff_getElem.mp z
    have := (List.getElem_inj (i := i) (j := 7) (h₀ := by omega) (h₁ := h7) h.nd).mp e
    omega
section
variable {as : List Lw} {one two : List Nat}
theorem Ln.tk (h : Ln as one two) (k : Nat) : (∀ l ∈ as.take k, LwS l) ∧ ((as.take k).map (·.mark)).Nodup ∧ (as.take k).length ≤ 6 := by
  refine ⟨fun l hl => h.ok l (List.mem_of_mem_take hl), ?_, ?_⟩
  · rw [List.map_take]; exact (List.take_sublist k _).nodup h.nd
  · have := h.len; rw [List.length_take]; omega
theorem Ln.lines (h : Ln as one two) (k : Nat) : ∀ y ∈ (as.drop k).map ruleT, LineG y := fun y hy => by
  obtain ⟨l, hl, rfl⟩ := List.mem_map.mp hy
  exact rule_good (h.ok l (List.mem_of_mem_drop hl))
theorem Ln.near (h : Ln as one two) (k : Nat) {l : Lw} (hl : l ∈ nearR one two) : (∀ x ∈ as.take k ++ l :: as.drop k, LwS x) ∧ ((as.take k ++ l :: as.drop k).map (·.mark)).Nodup ∧ (as.take k ++ l :: as.drop k).length ≤ 6 := by
  obtain ⟨s, m⟩ := near_ok h.h1 h.h2 h.ne l hl
  refine ⟨fun x hx => ?_, ?_, ?_⟩
  · rcases List.mem_append.mp hx with hx | hx
    · exact h.ok x (List.mem_of_mem_take hx)
    · rcases List.mem_cons.mp hx with hx | hx
      · rw [hx]; exact s
      · exact h.ok x (List.mem_of_mem_drop hx)
  · have p : (as.take k ++ l :: as.drop k).Perm (l :: as) := by
      refine (List.perm_middle).trans ?_
      rw [List.take_append_drop]
    refine ((p.map (·.mark)).nodup_iff).mpr ?_
    rw [List.map_cons, m]
    exact List.nodup_cons.mpr ⟨h.n1, h.nd⟩
  · have := h.len
    simp only [List.length_append, List.length_cons, List.length_take, List.length_drop]
    omega
end
end K02
end
section -- LG0_k02
set_option Elab.async false
set_option linter.all false
set_option maxRecDepth 100000
set_option maxHeartbeats 1000000
namespace K02
open PySem PySem.Spec L2 DL
variable {ga : Str → Addr}
/-- a comprehension that draws over typed items -/
theorem lc_penM {α β : Type} {encA : α → D} {enc : β → D} {sl : List Sl} {f : D → S → Option S} {e : M D} (mk : β → α) (P : β → Prop) (c B : Nat) : ∀ (xs : List α) (acc : List D) (p : Pen), p.turn + c * xs.length ≤ B →
    (∀ x ∈ xs, ∀ p : Pen, p.turn ≤ B → ∃ (s1 s3 : S) (y : β) (q : Pen), f (encA x) ⟨sl, [encPen p]⟩ = some s1 ∧ mb e fz s1 = .ok (enc y) s3 ∧ s3.mu = [encPen q] ∧ P y ∧ mk y = x ∧ q.turn ≤ p.turn + c) → acc.length + xs.length ≤ sizeLine →
    ∃ (ys : List β) (q : Pen), lcLoop sl f yesM e (xs.map encA) acc [encPen p] = .ok (acc ++ ys.map enc) ⟨sl, [encPen q]⟩ ∧ ys.map mk = xs ∧ (∀ y ∈ ys, P y) ∧ q.turn ≤ p.turn + c * xs.length := by
  intro xs
  induction xs with
  | nil => intro acc p _ _ _; exact ⟨[], p, by simp [lcLoop], rfl, by simp, by simp⟩
  | cons d ds ih =>
    intro acc p hB h hl
    have hB' : p.turn + (c * ds.length + c) ≤ B := by simpa [Nat.mul_succ] using hB
    have hl' : acc.length + (ds.length + 1) ≤ sizeLine := by simpa using hl
    obtain ⟨s1, s3, y, q, h1, h2, h3, h4, h5, h6⟩ := h d (by simp) p (by omega)
    obtain ⟨ys, q2, e1, e2, e3, e4⟩ := ih (acc ++ [enc y]) q (by omega) (fun x hx => h x (by simp [hx])) (by simp; omega)
    refine ⟨y :: ys, q2, ?_, by simp [e2, h5], ?_, ?_⟩
    · rw [List.map_cons]
      unfold lcLoop
      rw [h1]
      simp only
      simp only [x_yesM]
      rw [h2]
      simp only
      rw [if_pos (by omega), h3, e1]
      simp
    · intro z hz
      rcases List.mem_cons.mp hz with hz | hz
      · subst hz; exact h4
      · exact e3 z hz
    · rw [List.length_cons, Nat.mul_succ]; omega
end K02
end
section -- BG_k02
set_option Elab.async false
set_option linter.all false
set_option maxRecDepth 100000
set_option maxHeartbeats 1000000
namespace K02
open PySem PySem.Spec L2 DL
variable {ga : Str → Addr}
/-! ### the pen's beginning -/
theorem e_begun (ns : List Int) (mu : List Own) (hn : ns.length ≤ 63) : F__law_begun_pen ga [.scr ns] mu = .ok (encPen ⟨ns, 0, 0⟩) mu := by
  have hz : (1000 : Nat) ≤ sizeLine := by decide
  have sl : ∀ s, slcD s (.scr ns) none (some 63) = some (.lst (ns.map D.int)) := fun s => by
    show some (D.lst ((cutV (ns.map V.int) none (some 63)).map _)) = _
    have : cutV (ns.map V.int) none (some 63) = ns.map V.int := by
      unfold cutV
      rw [HT.sIx_none, show (63 : Int) = ((63 : Nat) : Int) by rfl, HT.sIx_nat]
      rw [List.drop_zero, List.take_of_length_le (by simp; omega)]
    rw [this, List.map_map]
    rfl
  have la : ∀ s, listA s [.lst (ns.map D.int)] = some (.lst (ns.map D.int)) := fun _ => rfl
  unfold F__law_begun_pen runO m__law_begun_pen dispM
  simp -implicitDefEqProofs -dsimp [dispL, sl, la]
  rfl
end K02
end
section -- Q2L
set_option Elab.async false
set_option linter.all false
set_option maxRecDepth 100000
set_option maxHeartbeats 1000000
noncomputable section
namespace K02
open PySem PySem.Spec L2 DL
variable {ga : Str → Addr}
theorem LwS.b {l : Lw} (s : LwS l) : LwB l := by
  have k0 : l.kind.length ≤ 1000 := by rcases s.v.kind with h | h <;> (rw [h]; decide)
  refine ⟨?_, k0, by have := s.v.m4; omega, by have := s.v.c4; omega, by rcases s.v.esc with h | ⟨c, h⟩ <;> simp [h], ?_⟩
  · rcases deep_cases s.v with h | h | h | h <;> (rw [h]; decide +kernel)
  · rcases deep_cases s.v with h | h | h | h <;> (rw [h]; decide +kernel)
/-! ### the law's state -/
structure Vt where
  z2 : Sl
  z3 : Sl
  z4 : Sl
  z5 : Sl
  z6 : Sl
  z7 : Sl
  z8 : Sl
  z9 : Sl
  z10 : Sl
  z11 : Sl
  z12 : Sl
  z13 : Sl
  z14 : Sl
def sV (ns : List Int) (v : Vt) (p : Pen) : S := ⟨[.dat (.scr ns), .dat (.shr 0), v.z2, v.z3, v.z4, v.z5, v.z6, v.z7, v.z8, v.z9, v.z10, v.z11, v.z12, v.z13, v.z14], [encPen p]⟩
theorem vr_at {s : S} {i : Nat} {d : D} (h : s.sl[i]? = some (.dat d)) : vr i s = .ok d s := by unfold vr; rw [h]
theorem vr_own {s : S} {i : Nat} {o : Own} (h : s.sl[i]? = some (.own o)) : vr i s = .ok (.loc i) s := by unfold vr; rw [h]
/-! ### the marks -/
def mkTail (ga : Str → Addr) : M D := (sm1 joinD (mret (D.str (cs ""))) (frz (lcM (rngM1 (aCons (callN 2 (F__law_draw ga) [] (aCons (vr 1) (aCons (mret (D.int 4)) aNil))) aNil)) [14] (gN 14) yesM (callN 2 (F__law_pick ga) [] (aCons (vr 1) (aCons (vr 3) aNil))))))
theorem join_signs {s : S} (ys : List Nat) (h : ys.length ≤ 1000000) : joinD s [] (.lst (ys.map encC)) = some (.str ys) := by
  have hmap : ys.map encC = (ys.map fun c => [c]).map D.str := by rw [List.map_map]; rfl
  have hs : ((ys.map fun c => [c]).map (·.length)).sum = ys.length := by
    clear hmap h
    induction ys with
    | nil => rfl
    | cons y ys ih => simp only [List.map_cons, List.sum_cons, ih, List.length_cons, List.length_nil]; omega
  rw [hmap, join_nil rfl (by rw [hs]; have : (1000000 : Nat) ≤ sizeLine := by decide
                             omega)]
  congr 2
  clear hmap hs h
  induction ys with
  | nil => rfl
  | cons y ys ih => simp [ih]
theorem e_mkTail (sl : List Sl) (sg : List Nat) (p : Pen) (h1 : sl[1]? = some (.dat (.shr 0))) (h3 : sl[3]? = some (.dat (.lst (sg.map encC)))) (h14 : 14 < sl.length) (n0 : 0 < sg.length) (n1 : sg.length < 1000) (ht : p.turn < 700000000) :
    ∃ (ys : List Nat) (q : Pen), mkTail ga ⟨sl, [encPen p]⟩ = .ok (.str ys) ⟨sl, [encPen q]⟩ ∧ ys.length ≤ 3 ∧ (∀ c ∈ ys, c ∈ sg) ∧ q.turn ≤ p.turn + 5 := by
  have hz : (1000000 : Nat) ≤ sizeLine := by decide
  obtain ⟨n, q1, e, e1, e2, e3⟩ := e_draw (ga := ga) p 4 (by omega) (by omega) (by omega)
  have e' : F__law_draw ga [.shr 0, .int 4] [encPen p] = .ok (.int (n : Int)) [encPen q1] := e
  obtain ⟨sl0, hsl⟩ : ∃ sl0, sl0 = blkS sl [14] := ⟨_, rfl⟩
  have hl : (rngL 0 n).length = n := rngL_len 0 n
  obtain ⟨ys, q, l1, l2, l3, l4⟩ := lc_pen (enc := encC) (sl := sl0) (f := gN 14) (e := callN 2 (F__law_pick ga) [] (aCons (vr 1) (aCons (vr 3) aNil))) (fun c => c ∈ sg) 1 950000000 (rngL 0 n) [] q1 (by omega)
    (fun d hd p hp => by
      obtain ⟨x, q, f1, f2, f3, f4⟩ := e_pick (ga := ga) (enc := encC) sg p n0 (by omega) (by omega) (fun _ _ => rfl)
      refine ⟨⟨sl0.set 14 (.dat d), [encPen p]⟩, ⟨sl0.set 14 (.dat d), [encPen q]⟩, x, q, rfl, ?_, rfl, f2, f4⟩
      have v1 : ∀ mu, vr 1 ⟨sl0.set 14 (.dat d), mu⟩ = .ok (.shr 0) ⟨sl0.set 14 (.dat d), mu⟩ := fun mu => vr_at (by rw [hsl, x_blk]; simp [h1])
      have v3 : ∀ mu, vr 3 ⟨sl0.set 14 (.dat d), mu⟩ = .ok (.lst (sg.map encC)) ⟨sl0.set 14 (.dat d), mu⟩ := fun mu => vr_at (by rw [hsl, x_blk]; simp [h3])
      simp -implicitDefEqProofs -dsimp [-x_vr, v1, v3, f1]
      rfl) (by simp [rngL]; omega)
  refine ⟨ys, q, ?_, by omega, l3, by omega⟩
  have v1 : ∀ mu, vr 1 ⟨sl, mu⟩ = .ok (.shr 0) ⟨sl, mu⟩ := fun mu => vr_at h1
  have hE : rngM1 (aCons (callN 2 (F__law_draw ga) [] (aCons (vr 1) (aCons (mret (D.int 4)) aNil))) aNil) ⟨sl, [encPen p]⟩ = .ok (rngL 0 n) ⟨sl, [encPen q1]⟩ := by
    refine rng1 ?_ (by omega)
    simp -implicitDefEqProofs -dsimp [-x_vr, v1, e']
  have hj : ∀ s, joinD s [] (.lst (ys.map encC)) = some (.str ys) := fun s => join_signs ys (by omega)
  have lc : lcM (rngM1 (aCons (callN 2 (F__law_draw ga) [] (aCons (vr 1) (aCons (mret (D.int 4)) aNil))) aNil)) [14] (gN 14) yesM (callN 2 (F__law_pick ga) [] (aCons (vr 1) (aCons (vr 3) aNil))) ⟨sl, [encPen p]⟩ = .ok (.lst (ys.map encC)) ⟨sl, [encPen q]⟩ := by
    rw [x_lcM, hE]
    simp only [R.bind_ok]
    rw [← hsl, l1]
    rfl
  unfold mkTail
  have hf : frz (lcM (rngM1 (aCons (callN 2 (F__law_draw ga) [] (aCons (vr 1) (aCons (mret (D.int 4)) aNil))) aNil)) [14] (gN 14) yesM (callN 2 (F__law_pick ga) [] (aCons (vr 1) (aCons (vr 3) aNil)))) ⟨sl, [encPen p]⟩ = .ok (.lst (ys.map encC)) ⟨sl, [encPen q]⟩ := by rw [x_frz, lc]; rfl
  rw [x_sm1, x_mret]
  simp only [R.bind_ok, toS, mo_some]
  rw [hf]
  simp only [R.bind_ok]
  rw [show cs "" = [] from rfl, hj]
  rfl
def vA (ga : Str → Addr) : M Fl := (asgM (callN 2 (F__law_shuffled ga) [] (aCons (vr 1) (aCons (callN 0 (F__law_mark_signs ga) [] aNil) aNil))) (gN 3))
def vBe (ga : Str → Addr) : M D := binD addA (vr 12) (mkTail ga)
def vB (ga : Str → Addr) : M Fl := (asgM (frz (lcM (anyI (slM slcD (vr 3) noP (someP (mret (D.int 9))))) [12] (gN 12) yesM (vBe ga))) (gN 4))
def vCe (ga : Str → Addr) : M D := callN 1 (F__law_rule_text ga) [] (aCons (callN 4 (F__law_new_rule ga) [] (aCons (vr 1) (aCons (vr 13) (aCons (slM slcD (vr 3) noP (someP (mret (D.int 4)))) (aCons (mret (D.int 4)) aNil))))) aNil)
def vC (ga : Str → Addr) : M Fl := (asgM (frz (lcM (anyI (vr 4)) [13] (gN 13) yesM (vCe ga))) (gN 5))
def vD (ga : Str → Addr) : M Fl := (ifM (orT (tstB (binD neD (callN 1 (F__law_told ga) [] (aCons (slM slcD (vr 5) noP (someP (mret (D.int 6)))) aNil)) (mret (D.int 0)))) (tstB (binD neD (callN 1 (F__law_told ga) [] (aCons (slM slcD (vr 5) noP (someP (binD addA (mret (D.int 7)) (callN 2 (F__law_draw ga) [] (aCons (vr 1) (aCons (mret (D.int 3)) aNil)))))) aNil)) (mret (D.int 7)))))
 (retM (mret (D.bl false)))
 (mret Fl.nx))
def vE (ga : Str → Addr) : M Fl := (parDD 6 7 (slM slcD (vr 5) noP (someP (callN 2 (F__law_draw ga) [] (aCons (vr 1) (aCons (mret (D.int 6)) aNil))))) (callN 2 (F__law_draw ga) [] (aCons (vr 1) (aCons (mret (D.int 6)) aNil))))
def vF : M Fl := (asgM (calM min2D (aCons (vr 7) (aCons (calM lenD (aCons (vr 6) aNil)) aNil))) (gN 7))
def vG (ga : Str → Addr) : M Fl := (asgM (callN 2 (F__law_pick ga) [] (aCons (vr 1) (aCons (callN 2 (F__law_wrong_lines ga) [] (aCons (binD ixD (vr 4) (mret (D.int 7))) (aCons (binD ixD (vr 4) (mret (D.int 8))) aNil))) aNil))) (gN 8))
def vH : M Fl := (setO 9 (addF (binD addA (slM slcD (vr 6) noP (someP (vr 7))) (frz (lstM (aCons (vr 8) aNil)))) (slM slcD (vr 6) (someP (vr 7)) noP)))
def vI (ga : Str → Addr) : M Fl := (ifM (tstB (binD eqD (callN 2 (F__law_draw ga) [] (aCons (vr 1) (aCons (mret (D.int 3)) aNil))) (mret (D.int 0))))
 (dropM (apM (vr 9) (aCons (callN 2 (F__law_pick ga) [] (aCons (vr 1) (aCons (callN 2 (F__law_wrong_lines ga) [] (aCons (binD ixD (vr 4) (mret (D.int 8))) (aCons (binD ixD (vr 4) (mret (D.int 7))) aNil))) aNil))) aNil)))
 (mret Fl.nx))
def vJ (ga : Str → Addr) : M Fl := (ifM (andT (tstB (binD neD (vr 9) (frz (lstM (aCons (mret (D.str (cs ""))) aNil))))) (tstB (binD neD (callN 1 (F__law_told ga) [] (aCons (vr 9) aNil)) (binD addA (vr 7) (mret (D.int 1))))))
 (retM (mret (D.bl false)))
 (mret Fl.nx))
def vK (ga : Str → Addr) : M Fl := (asgM (callN 2 (F__law_pick ga) [] (aCons (vr 1) (aCons (callN 2 (F__law_near_lines ga) [] (aCons (binD ixD (vr 4) (mret (D.int 7))) (aCons (binD ixD (vr 4) (mret (D.int 8))) aNil))) aNil))) (gN 10))
def vPut (x : Nat) : M D := (binD addA (binD addA (slM slcD (vr 6) noP (someP (vr 7))) (frz (lstM (aCons (vr x) aNil)))) (slM slcD (vr 6) (someP (vr 7)) noP))
def vL (ga : Str → Addr) : M Fl := (ifM (tstB (binD neD (callN 1 (F__law_told ga) [] (aCons (vPut 10) aNil)) (mret (D.int 0))))
 (retM (mret (D.bl false)))
 (mret Fl.nx))
def vM1 (ga : Str → Addr) : M Fl := (asgM (binD addA (binD addA (mret (D.str (cs "quote "))) (binD ixD (sm1 splitD (binD ixD (vr 6) (callN 2 (F__law_draw ga) [] (aCons (vr 1) (aCons (vr 7) aNil)))) (mret (D.str (cs " ")))) (mret (D.int 1)))) (mret (D.str (cs " to .")))) (gN 11))
def vM2 (ga : Str → Addr) : M Fl := (ifM (tstB (binD neD (callN 1 (F__law_told ga) [] (aCons (vPut 11) aNil)) (binD addA (vr 7) (mret (D.int 1)))))
 (retM (mret (D.bl false)))
 (mret Fl.nx))
def vTwo (x y : Nat) : M D := (binD addA (slM slcD (vr 6) noP (someP (vr 7))) (frz (lstM (aCons (vr x) (aCons (vr y) aNil)))))
def vM3 (ga : Str → Addr) : M Fl := (ifM (orT (tstB (binD neD (callN 1 (F__law_told ga) [] (aCons (vTwo 11 8) aNil)) (binD addA (vr 7) (mret (D.int 1))))) (tstB (binD neD (callN 1 (F__law_told ga) [] (aCons (vTwo 8 11) aNil)) (binD addA (vr 7) (mret (D.int 1))))))
 (retM (mret (D.bl false)))
 (mret Fl.nx))
def vM (ga : Str → Addr) : M Fl := (ifM (tstB (binD fGt (vr 7) (mret (D.int 0)))) (sq (vM1 ga) (sq (vM2 ga) (vM3 ga))) (mret Fl.nx))
def vInit (ga : Str → Addr) : M Fl := (setSh 1 (callO 1 (F__law_begun_pen ga) [] (aCons (vr 0) aNil)))
def tBody (ga : Str → Addr) : M Fl := sq (vA ga) (sq (vB ga) (sq (vC ga) (sq (vD ga) (sq (vE ga) (sq vF (sq (vG ga) (sq vH (sq (vI ga) (sq (vJ ga) (sq (vK ga) (sq (vL ga) (vM ga))))))))))))
theorem law_parts : m_law ga = sq (vInit ga) (sq (forM' (rngM1 (aCons (mret (D.int 6)) aNil)) (gN 2) (tBody ga)) (retM (mret (D.bl true)))) := rfl
section
variable {ns : List Int} {p : Pen} {z2 z3 z4 z5 z6 z7 z8 z9 z10 z11 z12 z13 z14 : Sl}
theorem e_vInit (hn : ns.length ≤ 63) : vInit ga ⟨[.dat (.scr ns), .non, .non, .non, .non, .non, .non, .non, .non, .non, .non, .non, .non, .non, .non], []⟩ = .ok .nx (sV ns ⟨.non, .non, .non, .non, .non, .non, .non, .non, .non, .non, .non, .non, .non⟩ ⟨ns, 0, 0⟩) := by
  have e := e_begun (ga := ga) ns [] hn
  have hc : callO 1 (F__law_begun_pen ga) [] (aCons (vr 0) aNil) ⟨[.dat (.scr ns), .non, .non, .non, .non, .non, .non, .non, .non, .non, .non, .non, .non, .non, .non], []⟩ = .ok (encPen ⟨ns, 0, 0⟩) ⟨[.dat (.scr ns), .non, .non, .non, .non, .non, .non, .non, .non, .non, .non, .non, .non, .non, .non], []⟩ := by
    unfold callO callG
    simp -implicitDefEqProofs -dsimp [e]
  unfold vInit
  rw [x_setSh, hc]
  rfl
theorem e_vA (ht : p.turn < 500000000) : ∃ (sg : List Nat) (q : Pen), vA ga (sV ns ⟨z2, z3, z4, z5, z6, z7, z8, z9, z10, z11, z12, z13, z14⟩ p) = .ok .nx (sV ns ⟨z2, .dat (.lst (sg.map encC)), z4, z5, z6, z7, z8, z9, z10, z11, z12, z13, z14⟩ q) ∧ sg.Perm mkS ∧ q.turn ≤ p.turn + 30 := by
  have ml : mkS.length = 30 := by rw [mkS_eq]; rfl
  have mc : ∀ c ∈ mkS, c < 256 := by rw [mkS_eq]; decide
  have e0 := fun mu => e_mark_signs (ga := ga) mu
  obtain ⟨sg, q, e, e1, e2⟩ := e_shuffled (ga := ga) mkS p mc (by omega) (by omega)
  refine ⟨sg, q, ?_, e1, by omega⟩
  unfold vA sV
  simp -implicitDefEqProofs -dsimp [e0, e]
theorem e_vB (sg : List Nat) (hp : sg.Perm mkS) (ht : p.turn < 500000000) : ∃ (ms : List (List Nat)) (q : Pen), vB ga (sV ns ⟨z2, .dat (.lst (sg.map encC)), z4, z5, z6, z7, z8, z9, z10, z11, z12, z13, z14⟩ p) = .ok .nx (sV ns ⟨z2, .dat (.lst (sg.map encC)), .dat (.lst (ms.map D.str)), z5, z6, z7, z8, z9, z10, z11, z12, z13, z14⟩ q) ∧ ms.length = 9 ∧ ms.Nodup ∧ (∀ m ∈ ms, Mk4 m) ∧ q.turn ≤ p.turn + 45 := by
  have hz : (1000000 : Nat) ≤ sizeLine := by decide
  have ml : mkS.length = 30 := by rw [mkS_eq]; rfl
  have sl30 : sg.length = 30 := by rw [hp.length_eq, ml]
  have snd : sg.Nodup := hp.nodup_iff.mpr (by rw [mkS_eq]; decide)
  have sm : ∀ c ∈ sg, c ∈ mkS := fun c hc => hp.mem_iff.mp hc
  have l9 : (sg.take 9).length = 9 := by rw [List.length_take]; omega
  obtain ⟨sl0, hsl⟩ : ∃ sl0, sl0 = blkS (sV ns ⟨z2, .dat (.lst (sg.map encC)), z4, z5, z6, z7, z8, z9, z10, z11, z12, z13, z14⟩ p).sl [12] := ⟨_, rfl⟩
  obtain ⟨ms, q4, d1, d2, d3, d4⟩ := lc_penM (encA := encC) (enc := D.str) (sl := sl0) (f := gN 12) (e := vBe ga) (fun m : List Nat => m.headD 0) Mk4 5 690000000 (sg.take 9) [] p (by rw [l9]; omega)
    (fun c hc p hp => by
      have cm := sm c (List.mem_of_mem_take hc)
      obtain ⟨ys, q, f1, f2, f3, f4⟩ := e_mkTail (ga := ga) (sl0.set 12 (.dat (encC c))) sg p (by rw [hsl]; rfl) (by rw [hsl]; rfl) (by rw [hsl]; simp [sV]) (by omega) (by omega) (by omega)
      refine ⟨⟨sl0.set 12 (.dat (encC c)), [encPen p]⟩, ⟨sl0.set 12 (.dat (encC c)), [encPen q]⟩, c :: ys, q, rfl, ?_, rfl, ⟨by simp; omega, by simp, ?_⟩, rfl, f4⟩
      · have v12 : vr 12 ⟨sl0.set 12 (.dat (encC c)), [encPen p]⟩ = .ok (.str [c]) ⟨sl0.set 12 (.dat (encC c)), [encPen p]⟩ := by rw [hsl]; rfl
        have ad : ∀ s, addA s (.str [c]) (.str ys) = some (.str (c :: ys)) := fun s => by
          rw [addA_str, if_pos (by simp; omega)]
          rfl
        unfold vBe
        rw [x_mb, x_binD, v12]
        simp only [R.bind_ok]
        rw [f1]
        simp only [R.bind_ok, ad, mo_some, x_fz_str]
      · intro x hx
        rcases List.mem_cons.mp hx with hx | hx
        · rw [hx]; exact cm
        · exact sm x (f3 x hx)) (by simp; omega)
  refine ⟨ms, q4, ?_, by rw [← l9, ← d2, List.length_map], ?_, d3, by rw [l9] at d4; omega⟩
  · have sl9 : ∀ s, slcD s (.lst (sg.map encC)) none (some 9) = some (.lst ((sg.take 9).map encC)) := fun s => by
      rw [slc_lst]
      show some (D.lst (cutD (sg.map encC) none (some ((9 : Nat) : Int)))) = _
      rw [cut_toD, List.map_take]
    have hit : anyI (slM slcD (vr 3) noP (someP (mret (D.int 9)))) (sV ns ⟨z2, .dat (.lst (sg.map encC)), z4, z5, z6, z7, z8, z9, z10, z11, z12, z13, z14⟩ p) = .ok ((sg.take 9).map encC) (sV ns ⟨z2, .dat (.lst (sg.map encC)), z4, z5, z6, z7, z8, z9, z10, z11, z12, z13, z14⟩ p) := by
      unfold sV
      simp -implicitDefEqProofs -dsimp [sl9, -slc_lst]
    unfold vB
    rw [x_asgM, x_frz, x_lcM, hit]
    simp only [R.bind_ok]
    rw [← hsl, show (sV ns ⟨z2, .dat (.lst (sg.map encC)), z4, z5, z6, z7, z8, z9, z10, z11, z12, z13, z14⟩ p).mu = [encPen p] from rfl, d1]
    rfl
  · refine List.Pairwise.of_map (S := (· ≠ ·)) (fun m : List Nat => m.headD 0) (fun a b h e => h (by rw [e])) ?_
    rw [d2]
    exact (List.take_sublist 9 sg).nodup snd
theorem e_vC (sg : List Nat) (hp : sg.Perm mkS) (ms : List (List Nat)) (hl : ms.length = 9) (nd : ms.Nodup) (m4 : ∀ m ∈ ms, Mk4 m) (ht : p.turn < 500000000) : ∃ (rs : List Lw) (q : Pen), vC ga (sV ns ⟨z2, .dat (.lst (sg.map encC)), .dat (.lst (ms.map D.str)), z5, z6, z7, z8, z9, z10, z11, z12, z13, z14⟩ p) = .ok .nx (sV ns ⟨z2, .dat (.lst (sg.map encC)), .dat (.lst (ms.map D.str)), .dat (.lst ((rs.map ruleT).map D.str)), z6, z7, z8, z9, z10, z11, z12, z13, z14⟩ q) ∧ Rs9 ms rs ∧ q.turn ≤ p.turn + 9090 := by
  have hz : (1000000 : Nat) ≤ sizeLine := by decide
  have ml : mkS.length = 30 := by rw [mkS_eq]; rfl
  have sl30 : sg.length = 30 := by rw [hp.length_eq, ml]
  have sm : ∀ c ∈ sg, c ∈ mkS := fun c hc => hp.mem_iff.mp hc
  have l4 : (sg.take 4).length = 4 := by rw [List.length_take]; omega
  have sl4 : ∀ s, slcD s (.lst (sg.map encC)) none (some 4) = some (.lst ((sg.take 4).map encC)) := fun s => by
    rw [slc_lst]
    show some (D.lst (cutD (sg.map encC) none (some ((4 : Nat) : Int)))) = _
    rw [cut_toD, List.map_take]
  obtain ⟨sl0, hsl⟩ : ∃ sl0, sl0 = blkS (sV ns ⟨z2, .dat (.lst (sg.map encC)), .dat (.lst (ms.map D.str)), z5, z6, z7, z8, z9, z10, z11, z12, z13, z14⟩ p).sl [13] := ⟨_, rfl⟩
  obtain ⟨rs, q4, d1, d2, d3, d4⟩ := lc_penM (encA := D.str) (enc := fun l : Lw => D.str (ruleT l)) (sl := sl0) (f := gN 13) (e := vCe ga) (fun l : Lw => l.mark) LwS 1010 690000000 ms [] p (by omega)
    (fun m hm p hp => by
      have g := m4 m hm
      obtain ⟨l, q, f1, f2, f3, f4⟩ := e_new_rule (ga := ga) m (sg.take 4) p (by omega) (by omega) (fun c hc => sm c (List.mem_of_mem_take hc)) (by
        have := g.ne
        cases m with
        | nil => exact absurd rfl this
        | cons a r => simp) g.le g.all (by omega)
      have e := e_rule_text (ga := ga) l [encPen q] f2.b
      refine ⟨⟨sl0.set 13 (.dat (.str m)), [encPen p]⟩, ⟨sl0.set 13 (.dat (.str m)), [encPen q]⟩, l, q, rfl, ?_, rfl, f2, f3, f4⟩
      have v1 : ∀ mu, vr 1 ⟨sl0.set 13 (.dat (.str m)), mu⟩ = .ok (.shr 0) ⟨sl0.set 13 (.dat (.str m)), mu⟩ := fun mu => by rw [hsl]; rfl
      have v13 : ∀ mu, vr 13 ⟨sl0.set 13 (.dat (.str m)), mu⟩ = .ok (.str m) ⟨sl0.set 13 (.dat (.str m)), mu⟩ := fun mu => by rw [hsl]; rfl
      have v3 : ∀ mu, vr 3 ⟨sl0.set 13 (.dat (.str m)), mu⟩ = .ok (.lst (sg.map encC)) ⟨sl0.set 13 (.dat (.str m)), mu⟩ := fun mu => by rw [hsl]; rfl
      have fzl : ∀ s, fz (encL l) s = .ok (encL l) s := fun _ => rfl
      unfold vCe
      simp -implicitDefEqProofs -dsimp [-x_vr, v1, v13, v3, f1, sl4, e, fzl, -slc_lst, -List.map_take]) (by simp; omega)
  refine ⟨rs, q4, ?_, ⟨d3, d2, hl, nd, m4⟩, by rw [hl] at d4; omega⟩
  have hit : anyI (vr 4) (sV ns ⟨z2, .dat (.lst (sg.map encC)), .dat (.lst (ms.map D.str)), z5, z6, z7, z8, z9, z10, z11, z12, z13, z14⟩ p) = .ok (ms.map D.str) (sV ns ⟨z2, .dat (.lst (sg.map encC)), .dat (.lst (ms.map D.str)), z5, z6, z7, z8, z9, z10, z11, z12, z13, z14⟩ p) := by
    unfold sV
    simp -implicitDefEqProofs -dsimp
  unfold vC
  rw [x_asgM, x_frz, x_lcM, hit]
  simp only [R.bind_ok]
  rw [← hsl, show (sV ns ⟨z2, .dat (.lst (sg.map encC)), .dat (.lst (ms.map D.str)), z5, z6, z7, z8, z9, z10, z11, z12, z13, z14⟩ p).mu = [encPen p] from rfl, d1, List.map_map]
  rfl
end
end K02
end
end
section -- Q2M
set_option Elab.async false
set_option linter.all false
set_option maxRecDepth 100000
set_option maxHeartbeats 1000000
noncomputable section
namespace K02
open PySem PySem.Spec L2 DL
variable {ga : Str → Addr}
theorem cut_tk {s : S} (ws : List (List Nat)) (n : Nat) : slcD s (.lst (ws.map D.str)) none (some (n : Int)) = some (.lst ((ws.take n).map D.str)) := by
  rw [slc_lst, cut_toD, List.map_take]
theorem cut_dr {s : S} (ws : List (List Nat)) (n : Nat) : slcD s (.lst (ws.map D.str)) (some (n : Int)) none = some (.lst ((ws.drop n).map D.str)) := by
  rw [slc_lst, cut_fromD, List.map_drop]
section
variable {s : S} {ws : List (List Nat)} {k : Nat}
theorem e_tk (h6 : s.sl[6]? = some (.dat (.lst (ws.map D.str)))) (h7 : s.sl[7]? = some (.dat (.int (k : Int)))) : slM slcD (vr 6) noP (someP (vr 7)) s = .ok (.lst ((ws.take k).map D.str)) s := by
  rw [x_slM, vr_at h6]
  simp only [R.bind_ok, x_noP, x_someP]
  rw [vr_at h7]
  simp only [R.bind_ok, x_toI, Option.map_some, mo_some, cut_tk]
theorem e_dr (h6 : s.sl[6]? = some (.dat (.lst (ws.map D.str)))) (h7 : s.sl[7]? = some (.dat (.int (k : Int)))) : slM slcD (vr 6) (someP (vr 7)) noP s = .ok (.lst ((ws.drop k).map D.str)) s := by
  rw [x_slM, vr_at h6]
  simp only [R.bind_ok, x_noP, x_someP]
  rw [vr_at h7]
  simp only [R.bind_ok, x_toI, Option.map_some, mo_some, cut_dr]
theorem e_l1 {x : Nat} {w : List Nat} (hx : s.sl[x]? = some (.dat (.str w))) : frz (lstM (aCons (vr x) aNil)) s = .ok (.lst [.str w]) s := by
  have e : aCons (vr x) aNil s = .ok [.str w] s := by
    rw [x_aCons, vr_at hx]
    rfl
  rw [x_frz]
  show ((mb (aCons (vr x) aNil) _ s)).bind _ = _
  rw [x_mb, e]
  rfl
theorem e_l2 {x y : Nat} {w v : List Nat} (hx : s.sl[x]? = some (.dat (.str w))) (hy : s.sl[y]? = some (.dat (.str v))) : frz (lstM (aCons (vr x) (aCons (vr y) aNil))) s = .ok (.lst [.str w, .str v]) s := by
  have e : aCons (vr x) (aCons (vr y) aNil) s = .ok [.str w, .str v] s := by
    rw [x_aCons, vr_at hx]
    simp only [R.bind_ok]
    rw [x_aCons, vr_at hy]
    rfl
  rw [x_frz]
  show ((mb (aCons (vr x) (aCons (vr y) aNil)) _ s)).bind _ = _
  rw [x_mb, e]
  rfl
theorem e_vPut {x : Nat} {w : List Nat} (h6 : s.sl[6]? = some (.dat (.lst (ws.map D.str)))) (h7 : s.sl[7]? = some (.dat (.int (k : Int)))) (hx : s.sl[x]? = some (.dat (.str w))) (hl : ws.length ≤ 100) :
    vPut x s = .ok (.lst ((ws.take k ++ w :: ws.drop k).map D.str)) s := by
  have a1 := addL (s := s) (ws.take k) [w] (by simp; omega)
  have a2 := addL (s := s) (ws.take k ++ [w]) (ws.drop k) (by simp; omega)
  unfold vPut
  rw [x_binD, x_binD, e_tk h6 h7]
  simp only [R.bind_ok]
  rw [e_l1 hx]
  simp only [R.bind_ok]
  rw [show addA s (.lst ((ws.take k).map D.str)) (.lst [.str w]) = _ from a1]
  simp only [R.bind_ok, mo_some]
  rw [e_dr h6 h7]
  simp only [R.bind_ok]
  rw [a2, mo_some, List.append_assoc]
  rfl
theorem e_vTwo {x y : Nat} {w v : List Nat} (h6 : s.sl[6]? = some (.dat (.lst (ws.map D.str)))) (h7 : s.sl[7]? = some (.dat (.int (k : Int)))) (hx : s.sl[x]? = some (.dat (.str w))) (hy : s.sl[y]? = some (.dat (.str v))) (hl : ws.length ≤ 100) :
    vTwo x y s = .ok (.lst ((ws.take k ++ [w, v]).map D.str)) s := by
  have a1 := addL (s := s) (ws.take k) [w, v] (by simp; omega)
  unfold vTwo
  rw [x_binD, e_tk h6 h7]
  simp only [R.bind_ok]
  rw [e_l2 hx hy]
  simp only [R.bind_ok]
  rw [show addA s (.lst ((ws.take k).map D.str)) (.lst [.str w, .str v]) = _ from a1]
  rfl
theorem e_vH' {w : List Nat} (h6 : s.sl[6]? = some (.dat (.lst (ws.map D.str)))) (h7 : s.sl[7]? = some (.dat (.int (k : Int)))) (hx : s.sl[8]? = some (.dat (.str w))) (hl : ws.length ≤ 100) :
    vH s = .ok .nx { s with sl := s.sl.set 9 (.own (.lst ((ws.take k ++ w :: ws.drop k).map D.str))) } := by
  have hz : (1000000 : Nat) ≤ sizeLine := by decide
  have a1 := addL (s := s) (ws.take k) [w] (by simp; omega)
  have m1 : binD addA (slM slcD (vr 6) noP (someP (vr 7))) (frz (lstM (aCons (vr 8) aNil))) s = .ok (.lst ((ws.take k ++ [w]).map D.str)) s := by
    rw [x_binD, e_tk h6 h7]
    simp only [R.bind_ok]
    rw [e_l1 hx]
    simp only [R.bind_ok]
    rw [show addA s (.lst ((ws.take k).map D.str)) (.lst [.str w]) = _ from a1]
    rfl
  have m2 : addF (binD addA (slM slcD (vr 6) noP (someP (vr 7))) (frz (lstM (aCons (vr 8) aNil)))) (slM slcD (vr 6) (someP (vr 7)) noP) s = .ok (.lst ((ws.take k ++ w :: ws.drop k).map D.str)) s := by
    unfold addF
    rw [x_mb, m1]
    simp only [R.bind_ok]
    rw [x_mb, e_dr h6 h7]
    simp only [R.bind_ok, x_mopt, x_rdL_lst, x_rdS]
    rw [if_pos (by simp; omega), ← List.map_append, List.append_assoc]
    rfl
  unfold vH
  rw [x_setO, m2]
  rfl
end
/-- told: the list need not be data -/
theorem e_tellN {s : S} {m : M D} {ls : List (List Nat)} {n : Int} (hm : m s = .ok (.lst (ls.map D.str)) s) (h : F__law_told ga [.lst (ls.map D.str)] s.mu = .ok (.int n) s.mu) : callN 1 (F__law_told ga) [] (aCons m aNil) s = .ok (.int n) s := by
  have e : aCons m aNil s = .ok [.lst (ls.map D.str)] s := by rw [x_aCons, hm]; rfl
  rw [x_callN, e]
  simp only [R.bind_ok]
  rw [show fzs [D.lst (ls.map D.str)] s = .ok [D.lst (ls.map D.str)] s from rfl]
  simp only [R.bind_ok, List.append_nil]
  rw [show lenM 1 [D.lst (ls.map D.str)] s = .ok [D.lst (ls.map D.str)] s from rfl]
  simp only [R.bind_ok, x_callR, h]
section
variable {ns : List Int} {p : Pen} {z2 z3 z4 z5 z6 z7 z8 z9 z10 z11 z12 z13 z14 : Sl}
theorem e_vD (ms : List (List Nat)) (rs : List Lw) (h : Rs9 ms rs) (ht : p.turn < 500000000) : ∃ q : Pen, vD ga (sV ns ⟨z2, z3, z4, .dat (.lst ((rs.map ruleT).map D.str)), z6, z7, z8, z9, z10, z11, z12, z13, z14⟩ p) = .ok .nx (sV ns ⟨z2, z3, z4, .dat (.lst ((rs.map ruleT).map D.str)), z6, z7, z8, z9, z10, z11, z12, z13, z14⟩ q) ∧ q.turn ≤ p.turn + 1 := by
  obtain ⟨n, q, e, e1, e2, e3⟩ := e_draw (ga := ga) p 3 (by omega) (by omega) (by omega)
  have e' : F__law_draw ga [.shr 0, .int 3] [encPen p] = .ok (.int (n : Int)) [encPen q] := e
  have rl := h.rl
  have t6 := e_told_all (ga := ga) (as := rs.take 6) [encPen p] (fun l hl => h.ok l (List.mem_of_mem_take hl)) (by rw [List.map_take, h.mks]; exact (List.take_sublist 6 _).nodup h.nd) (by rw [List.length_take]; omega)
  have t7 := e_told_many (ga := ga) (as := rs.take (7 + n)) [encPen q] (fun l hl => h.ok l (List.mem_of_mem_take hl)) (by rw [List.map_take, h.mks]; exact (List.take_sublist (7 + n) _).nodup h.nd) (by rw [List.length_take]; omega) (by rw [List.length_take]; omega)
  rw [List.map_take] at t6 t7
  refine ⟨q, ?_, e3⟩
  obtain ⟨W, hW⟩ : ∃ W, W = rs.map ruleT := ⟨_, rfl⟩
  rw [← hW] at t6 t7 ⊢
  have c6 : ∀ s, slcD s (.lst (W.map D.str)) none (some 6) = some (.lst ((W.take 6).map D.str)) := fun s => cut_tk W 6
  have c7 : ∀ s, slcD s (.lst (W.map D.str)) none (some (7 + (n : Int))) = some (.lst ((W.take (7 + n)).map D.str)) := fun s => by
    have := cut_tk (s := s) W (7 + n)
    rw [show ((7 + n : Nat) : Int) = 7 + (n : Int) by omega] at this
    exact this
  unfold vD sV
  simp -implicitDefEqProofs -dsimp [c6, c7, t6, t7, e', -slc_lst, -List.map_take]
theorem e_vE (rs : List Lw) (hl : rs.length = 9) (ht : p.turn < 500000000) : ∃ (a b : Nat) (q : Pen), vE ga (sV ns ⟨z2, z3, z4, .dat (.lst ((rs.map ruleT).map D.str)), z6, z7, z8, z9, z10, z11, z12, z13, z14⟩ p) = .ok .nx (sV ns ⟨z2, z3, z4, .dat (.lst ((rs.map ruleT).map D.str)), .dat (.lst (((rs.take a).map ruleT).map D.str)), .dat (.int (b : Int)), z8, z9, z10, z11, z12, z13, z14⟩ q) ∧ a ≤ 5 ∧ b ≤ 5 ∧ q.turn ≤ p.turn + 2 := by
  obtain ⟨a, q, e, e1, e2, e3⟩ := e_draw (ga := ga) p 6 (by omega) (by omega) (by omega)
  have e' : F__law_draw ga [.shr 0, .int 6] [encPen p] = .ok (.int (a : Int)) [encPen q] := e
  obtain ⟨b, r, f, f1, f2, f3⟩ := e_draw (ga := ga) q 6 (by omega) (by omega) (by omega)
  have f' : F__law_draw ga [.shr 0, .int 6] [encPen q] = .ok (.int (b : Int)) [encPen r] := f
  refine ⟨a, b, r, ?_, by omega, by omega, by omega⟩
  obtain ⟨W, hW⟩ : ∃ W, W = rs.map ruleT := ⟨_, rfl⟩
  rw [List.map_take, ← hW]
  have c6 : ∀ s, slcD s (.lst (W.map D.str)) none (some (a : Int)) = some (.lst ((W.take a).map D.str)) := fun s => cut_tk W a
  unfold vE sV
  simp -implicitDefEqProofs -dsimp [c6, e', f', -slc_lst, -List.map_take]
theorem e_vF (ws : List (List Nat)) (b : Nat) (hl : ws.length ≤ 1000) : ∃ k : Nat, k ≤ ws.length ∧ vF (sV ns ⟨z2, z3, z4, z5, .dat (.lst (ws.map D.str)), .dat (.int (b : Int)), z8, z9, z10, z11, z12, z13, z14⟩ p) = .ok .nx (sV ns ⟨z2, z3, z4, z5, .dat (.lst (ws.map D.str)), .dat (.int (k : Int)), z8, z9, z10, z11, z12, z13, z14⟩ p) := by
  have m : ∀ s, min2D s [.int (b : Int), .int (ws.length : Int)] = some (.int ((min ws.length b : Nat) : Int)) := fun s => by
    show some (D.int (if (ws.length : Int) < (b : Int) then (ws.length : Int) else (b : Int))) = _
    congr 2
    split <;> omega
  refine ⟨min ws.length b, Nat.min_le_left _ _, ?_⟩
  unfold vF sV
  simp -implicitDefEqProofs -dsimp [m]
end
end K02
end
section -- Q2N
set_option Elab.async false
set_option linter.all false
set_option maxRecDepth 100000
set_option maxHeartbeats 1000000
noncomputable section
namespace K02
open PySem PySem.Spec L2 DL
variable {ga : Str → Addr}
theorem wrong_count (one two : List Nat) : (wrongL one two).length = wrongW.length := by
  rw [wrong_words]
  unfold jW
  rw [List.length_map]
theorem ixs_at {s : S} {ms : List (List Nat)} {i : Nat} {m : List Nat} (h : ms[i]? = some m) : ixD s (.lst (ms.map D.str)) (.int (i : Int)) = some (.str m) := ixD_lst h
/-- a wrong line is picked -/
theorem e_wpick {sl : List Sl} {ms : List (List Nat)} {p : Pen} {a b : Nat} {one two : List Nat} (h1 : sl[1]? = some (.dat (.shr 0))) (h4 : sl[4]? = some (.dat (.lst (ms.map D.str)))) (ha : ms[a]? = some one) (hb : ms[b]? = some two) (o : Mk4 one) (t : Mk4 two) (ht : p.turn < 500000000) :
    ∃ (x : List Nat) (q : Pen), callN 2 (F__law_pick ga) [] (aCons (vr 1) (aCons (callN 2 (F__law_wrong_lines ga) [] (aCons (binD ixD (vr 4) (mret (D.int (a : Int)))) (aCons (binD ixD (vr 4) (mret (D.int (b : Int)))) aNil))) aNil)) ⟨sl, [encPen p]⟩ = .ok (.str x) ⟨sl, [encPen q]⟩ ∧ x ∈ wrongL one two ∧ q.turn ≤ p.turn + 1 := by
  have wc : (wrongL one two).length = wrongW.length := wrong_count one two
  have w0 : 0 < wrongW.length ∧ wrongW.length < 1000000 := by decide +kernel
  obtain ⟨x, q, e, e1, e2, e3⟩ := e_pick (ga := ga) (enc := D.str) (wrongL one two) p (by omega) (by omega) (by omega) (fun _ _ => rfl)
  refine ⟨x, q, ?_, e1, e3⟩
  have v1 : ∀ mu, vr 1 ⟨sl, mu⟩ = .ok (.shr 0) ⟨sl, mu⟩ := fun mu => vr_at h1
  have v4 : ∀ mu, vr 4 ⟨sl, mu⟩ = .ok (.lst (ms.map D.str)) ⟨sl, mu⟩ := fun mu => vr_at h4
  have i1 : ∀ s, ixD s (.lst (ms.map D.str)) (.int (a : Int)) = some (.str one) := fun s => ixs_at ha
  have i2 : ∀ s, ixD s (.lst (ms.map D.str)) (.int (b : Int)) = some (.str two) := fun s => ixs_at hb
  have w := e_wr (ga := ga) (mu := [encPen p]) o.m4 t.m4
  simp -implicitDefEqProofs -dsimp [-x_vr, v1, v4, i1, i2, w, e]
theorem e_npick {sl : List Sl} {ms : List (List Nat)} {p : Pen} {a b : Nat} {one two : List Nat} (h1 : sl[1]? = some (.dat (.shr 0))) (h4 : sl[4]? = some (.dat (.lst (ms.map D.str)))) (ha : ms[a]? = some one) (hb : ms[b]? = some two) (o : Mk4 one) (t : Mk4 two) (ht : p.turn < 500000000) :
    ∃ (l : Lw) (q : Pen), callN 2 (F__law_pick ga) [] (aCons (vr 1) (aCons (callN 2 (F__law_near_lines ga) [] (aCons (binD ixD (vr 4) (mret (D.int (a : Int)))) (aCons (binD ixD (vr 4) (mret (D.int (b : Int)))) aNil))) aNil)) ⟨sl, [encPen p]⟩ = .ok (.str (ruleT l)) ⟨sl, [encPen q]⟩ ∧ l ∈ nearR one two ∧ q.turn ≤ p.turn + 1 := by
  have nl : (nearR one two).length = 12 := rfl
  obtain ⟨x, q, e, e1, e2, e3⟩ := e_pick (ga := ga) (enc := fun l => D.str (ruleT l)) (nearR one two) p (by omega) (by omega) (by omega) (fun _ _ => rfl)
  refine ⟨x, q, ?_, e1, e3⟩
  have v1 : ∀ mu, vr 1 ⟨sl, mu⟩ = .ok (.shr 0) ⟨sl, mu⟩ := fun mu => vr_at h1
  have v4 : ∀ mu, vr 4 ⟨sl, mu⟩ = .ok (.lst (ms.map D.str)) ⟨sl, mu⟩ := fun mu => vr_at h4
  have i1 : ∀ s, ixD s (.lst (ms.map D.str)) (.int (a : Int)) = some (.str one) := fun s => ixs_at ha
  have i2 : ∀ s, ixD s (.lst (ms.map D.str)) (.int (b : Int)) = some (.str two) := fun s => ixs_at hb
  have w := e_near0 (ga := ga) (mu := [encPen p]) o.m4 t.m4
  rw [near_rules o.ne t.ne, List.map_map] at w
  have w : F__law_near_lines ga [.str one, .str two] [encPen p] = .ok (.lst ((nearR one two).map fun l => D.str (ruleT l))) [encPen p] := w
  simp -implicitDefEqProofs -dsimp [-x_vr, v1, v4, i1, i2, w, e]
theorem words_okT {ws : List (List Nat)} (h : ∀ w ∈ ws, WordOk w) : okT (TL.joinL [32] ws) = true := by
  unfold okT
  rw [List.all_eq_true]
  intro c hc
  rcases mem_joinL hc with h1 | ⟨y, h1, h2⟩
  · simp at h1; subst h1; decide
  · have := (h y h1).lt c h2
    simp; omega
theorem rule_okT {l : Lw} (s : LwS l) : okT (ruleT l) = true := words_okT (words_ok s)
theorem wrong_okT {one two : List Nat} (ha : Mk4 one) (hb : Mk4 two) {x : List Nat} (hx : x ∈ wrongL one two) : okT x = true := by
  rw [wrong_words] at hx
  obtain ⟨us, hu, rfl⟩ := List.mem_map.mp hx
  obtain ⟨h1, h2⟩ := He.ba (List.all_eq_true.mp all_words us hu)
  obtain ⟨h2, h3⟩ := He.ba h2
  exact words_okT fun w hw => by
    obtain ⟨u, hu, rfl⟩ := List.mem_map.mp hw
    exact ev_word ha hb (List.all_eq_true.mp h3 u hu)
section
variable {ns : List Int} {p : Pen} {z2 z3 z4 z5 z6 z7 z8 z9 z10 z11 z12 z13 z14 : Sl}
theorem e_vG (ms : List (List Nat)) {one two : List Nat} (h7 : ms[7]? = some one) (h8 : ms[8]? = some two) (o : Mk4 one) (t : Mk4 two) (ht : p.turn < 500000000) : ∃ (x : List Nat) (q : Pen), vG ga (sV ns ⟨z2, z3, .dat (.lst (ms.map D.str)), z5, z6, z7, z8, z9, z10, z11, z12, z13, z14⟩ p) = .ok .nx (sV ns ⟨z2, z3, .dat (.lst (ms.map D.str)), z5, z6, z7, .dat (.str x), z9, z10, z11, z12, z13, z14⟩ q) ∧ x ∈ wrongL one two ∧ q.turn ≤ p.turn + 1 := by
  obtain ⟨x, q, e, e1, e2⟩ := e_wpick (ga := ga) (sl := (sV ns ⟨z2, z3, .dat (.lst (ms.map D.str)), z5, z6, z7, z8, z9, z10, z11, z12, z13, z14⟩ p).sl) (p := p) rfl rfl h7 h8 o t ht
  refine ⟨x, q, ?_, e1, e2⟩
  unfold vG
  rw [x_asgM]
  show (callN 2 (F__law_pick ga) [] _ ⟨(sV ns ⟨z2, z3, .dat (.lst (ms.map D.str)), z5, z6, z7, z8, z9, z10, z11, z12, z13, z14⟩ p).sl, [encPen p]⟩).bind _ = _
  have e' : callN 2 (F__law_pick ga) [] (aCons (vr 1) (aCons (callN 2 (F__law_wrong_lines ga) [] (aCons (binD ixD (vr 4) (mret (D.int 7))) (aCons (binD ixD (vr 4) (mret (D.int 8))) aNil))) aNil)) _ = _ := e
  rw [e']
  rfl
theorem e_vK (ms : List (List Nat)) {one two : List Nat} (h7 : ms[7]? = some one) (h8 : ms[8]? = some two) (o : Mk4 one) (t : Mk4 two) (ht : p.turn < 500000000) : ∃ (l : Lw) (q : Pen), vK ga (sV ns ⟨z2, z3, .dat (.lst (ms.map D.str)), z5, z6, z7, z8, z9, z10, z11, z12, z13, z14⟩ p) = .ok .nx (sV ns ⟨z2, z3, .dat (.lst (ms.map D.str)), z5, z6, z7, z8, z9, .dat (.str (ruleT l)), z11, z12, z13, z14⟩ q) ∧ l ∈ nearR one two ∧ q.turn ≤ p.turn + 1 := by
  obtain ⟨x, q, e, e1, e2⟩ := e_npick (ga := ga) (sl := (sV ns ⟨z2, z3, .dat (.lst (ms.map D.str)), z5, z6, z7, z8, z9, z10, z11, z12, z13, z14⟩ p).sl) (p := p) rfl rfl h7 h8 o t ht
  refine ⟨x, q, ?_, e1, e2⟩
  unfold vK
  rw [x_asgM]
  show (callN 2 (F__law_pick ga) [] _ ⟨(sV ns ⟨z2, z3, .dat (.lst (ms.map D.str)), z5, z6, z7, z8, z9, z10, z11, z12, z13, z14⟩ p).sl, [encPen p]⟩).bind _ = _
  have e' : callN 2 (F__law_pick ga) [] (aCons (vr 1) (aCons (callN 2 (F__law_near_lines ga) [] (aCons (binD ixD (vr 4) (mret (D.int 7))) (aCons (binD ixD (vr 4) (mret (D.int 8))) aNil))) aNil)) _ = _ := e
  rw [e']
  rfl
theorem e_vI (ms C : List (List Nat)) {one two : List Nat} (h7 : ms[7]? = some one) (h8 : ms[8]? = some two) (o : Mk4 one) (t : Mk4 two) (hC : C.length ≤ 100) (ht : p.turn < 400000000) : ∃ (ext : List (List Nat)) (q : Pen), vI ga (sV ns ⟨z2, z3, .dat (.lst (ms.map D.str)), z5, z6, z7, z8, .own (.lst (C.map D.str)), z10, z11, z12, z13, z14⟩ p) = .ok .nx (sV ns ⟨z2, z3, .dat (.lst (ms.map D.str)), z5, z6, z7, z8, .own (.lst ((C ++ ext).map D.str)), z10, z11, z12, z13, z14⟩ q) ∧ (ext = [] ∨ ∃ y, ext = [y] ∧ LineG y ∧ okT y = true) ∧ q.turn ≤ p.turn + 2 := by
  have hz : (1000000 : Nat) ≤ sizeLine := by decide
  obtain ⟨n, q, e, e1, e2, e3⟩ := e_draw (ga := ga) p 3 (by omega) (by omega) (by omega)
  have e' : F__law_draw ga [.shr 0, .int 3] [encPen p] = .ok (.int (n : Int)) [encPen q] := e
  obtain ⟨x, r, f, f1, f2⟩ := e_wpick (ga := ga) (sl := (sV ns ⟨z2, z3, .dat (.lst (ms.map D.str)), z5, z6, z7, z8, .own (.lst (C.map D.str)), z10, z11, z12, z13, z14⟩ p).sl) (p := q) rfl rfl h8 h7 t o (by omega)
  have f' : callN 2 (F__law_pick ga) [] (aCons (vr 1) (aCons (callN 2 (F__law_wrong_lines ga) [] (aCons (binD ixD (vr 4) (mret (D.int 8))) (aCons (binD ixD (vr 4) (mret (D.int 7))) aNil))) aNil)) (sV ns ⟨z2, z3, .dat (.lst (ms.map D.str)), z5, z6, z7, z8, .own (.lst (C.map D.str)), z10, z11, z12, z13, z14⟩ q) = .ok (.str x) (sV ns ⟨z2, z3, .dat (.lst (ms.map D.str)), z5, z6, z7, z8, .own (.lst (C.map D.str)), z10, z11, z12, z13, z14⟩ r) := f
  have g := (wrong_line t o f1).2
  have tst : tstB (binD eqD (callN 2 (F__law_draw ga) [] (aCons (vr 1) (aCons (mret (D.int 3)) aNil))) (mret (D.int 0))) (sV ns ⟨z2, z3, .dat (.lst (ms.map D.str)), z5, z6, z7, z8, .own (.lst (C.map D.str)), z10, z11, z12, z13, z14⟩ p) = .ok (decide ((n : Int) = 0)) (sV ns ⟨z2, z3, .dat (.lst (ms.map D.str)), z5, z6, z7, z8, .own (.lst (C.map D.str)), z10, z11, z12, z13, z14⟩ q) := by
    unfold sV
    simp -implicitDefEqProofs -dsimp [e']
  unfold vI
  rw [x_ifM, tst]
  simp only [R.bind_ok]
  by_cases h : (n : Int) = 0
  · refine ⟨[x], r, ?_, .inr ⟨x, rfl, g, wrong_okT t o f1⟩, by omega⟩
    rw [if_pos (decide_eq_true h)]
    have l1 : C.length < sizeLine := by omega
    rw [x_dropM, x_apM, show vr 9 (sV ns ⟨z2, z3, .dat (.lst (ms.map D.str)), z5, z6, z7, z8, .own (.lst (C.map D.str)), z10, z11, z12, z13, z14⟩ q) = .ok (.loc 9) (sV ns ⟨z2, z3, .dat (.lst (ms.map D.str)), z5, z6, z7, z8, .own (.lst (C.map D.str)), z10, z11, z12, z13, z14⟩ q) from rfl]
    simp only [R.bind_ok]
    rw [show rdL (sV ns ⟨z2, z3, .dat (.lst (ms.map D.str)), z5, z6, z7, z8, .own (.lst (C.map D.str)), z10, z11, z12, z13, z14⟩ q) (.loc 9) = some (C.map D.str) from rfl]
    simp only [mo_some, R.bind_ok]
    rw [x_aCons, f']
    simp only [R.bind_ok]
    unfold sV
    simp -implicitDefEqProofs -dsimp [l1]
  · refine ⟨[], q, ?_, .inl rfl, by omega⟩
    rw [if_neg (by simpa using h), List.append_nil]
    rfl
theorem ne_one {s : S} {i : Nat} {C : List (List Nat)} (hs : s.sl[i]? = some (.own (.lst (C.map D.str)))) (h : ∀ x ∈ C, okT x = true) : neD s (.loc i) (.lst [.str []]) = some (.bl (!decide (C = [[]]))) := by
  have d1 : dd s (.loc i) = some (.lst (C.map D.str)) := by
    unfold dd
    simp only
    rw [hs]
    rfl
  show deepD true s (.loc i) (.lst [.str []]) = _
  unfold deepD
  rw [d1]
  simp only [x_dd_lst]
  rw [if_pos ⟨by show okPys (C.map D.str) 59 = true; exact okPys_strs h, by rfl⟩]
  have := deq_strs C [[]]
  rw [show deq (.lst (C.map .str)) (.lst [.str []]) = decide (C = [[]]) from this]
  rfl
end
end K02
end
section -- Q2O
set_option Elab.async false
set_option linter.all false
set_option maxRecDepth 100000
set_option maxHeartbeats 1000000
noncomputable section
namespace K02
open PySem PySem.Spec L2 DL
variable {ga : Str → Addr}
section
variable {ns : List Int} {p : Pen} {z2 z3 z4 z5 z6 z7 z8 z9 z10 z11 z12 z13 z14 : Sl}
theorem e_vJ {as : List Lw} {one two : List Nat} (h : Ln as one two) {k : Nat} (hk : k ≤ as.length) {w : List Nat} (hw : w ∈ wrongL one two) {ext : List (List Nat)} (hx : ext = [] ∨ ∃ y, ext = [y] ∧ LineG y ∧ okT y = true) :
    ∃ y9, vJ ga (sV ns ⟨z2, z3, z4, z5, z6, .dat (.int (k : Int)), z8, .own (.lst (((as.map ruleT).take k ++ w :: (as.map ruleT).drop k ++ ext).map D.str)), z10, z11, z12, z13, z14⟩ p) = .ok .nx (sV ns ⟨z2, z3, z4, z5, z6, .dat (.int (k : Int)), z8, y9, z10, z11, z12, z13, z14⟩ p) := by
  obtain ⟨wn, wg⟩ := wrong_line h.h1 h.h2 hw
  have wo := wrong_okT h.h1 h.h2 hw
  obtain ⟨t1, t2, t3⟩ := h.tk k
  have tl : (as.take k).length = k := by rw [List.length_take]; omega
  have exl : ext.length ≤ 1 := by rcases hx with rfl | ⟨y, rfl, _⟩ <;> simp
  have exg : ∀ y ∈ ext, LineG y ∧ okT y = true := fun y hy => by
    rcases hx with rfl | ⟨y', rfl, g⟩
    · cases hy
    · simp only [List.mem_singleton] at hy
      rw [hy]; exact g
  obtain ⟨C, hC⟩ : ∃ C, C = (as.map ruleT).take k ++ w :: (as.map ruleT).drop k ++ ext := ⟨_, rfl⟩
  have hC2 : C = (as.take k).map ruleT ++ w :: ((as.drop k).map ruleT ++ ext) := by
    rw [hC, List.map_take, List.map_drop, List.append_assoc]
    rfl
  have ok : ∀ x ∈ C, okT x = true := fun x hx => by
    rw [hC2] at hx
    simp only [List.mem_append, List.mem_cons] at hx
    rcases hx with hx | hx | hx | hx
    · obtain ⟨l, hl, rfl⟩ := List.mem_map.mp hx
      exact rule_okT (t1 l hl)
    · rw [hx]; exact wo
    · obtain ⟨l, hl, rfl⟩ := List.mem_map.mp hx
      exact rule_okT (h.ok l (List.mem_of_mem_drop hl))
    · exact (exg x hx).2
  rw [← hC]
  have n1 : neD (sV ns ⟨z2, z3, z4, z5, z6, .dat (.int (k : Int)), z8, .own (.lst (C.map D.str)), z10, z11, z12, z13, z14⟩ p) (.loc 9) (.lst [.str []]) = some (.bl (!decide (C = [[]]))) := ne_one rfl ok
  have tst : tstB (binD neD (vr 9) (frz (lstM (aCons (mret (D.str (cs ""))) aNil)))) (sV ns ⟨z2, z3, z4, z5, z6, .dat (.int (k : Int)), z8, .own (.lst (C.map D.str)), z10, z11, z12, z13, z14⟩ p) = .ok (!decide (C = [[]])) (sV ns ⟨z2, z3, z4, z5, z6, .dat (.int (k : Int)), z8, .own (.lst (C.map D.str)), z10, z11, z12, z13, z14⟩ p) := by
    have l1 : frz (lstM (aCons (mret (D.str (cs ""))) aNil)) (sV ns ⟨z2, z3, z4, z5, z6, .dat (.int (k : Int)), z8, .own (.lst (C.map D.str)), z10, z11, z12, z13, z14⟩ p) = .ok (.lst [.str []]) (sV ns ⟨z2, z3, z4, z5, z6, .dat (.int (k : Int)), z8, .own (.lst (C.map D.str)), z10, z11, z12, z13, z14⟩ p) := rfl
    rw [x_tstB, x_binD, show vr 9 (sV ns ⟨z2, z3, z4, z5, z6, .dat (.int (k : Int)), z8, .own (.lst (C.map D.str)), z10, z11, z12, z13, z14⟩ p) = .ok (.loc 9) (sV ns ⟨z2, z3, z4, z5, z6, .dat (.int (k : Int)), z8, .own (.lst (C.map D.str)), z10, z11, z12, z13, z14⟩ p) from rfl]
    simp only [R.bind_ok]
    rw [l1]
    simp only [R.bind_ok, n1, mo_some, x_toB]
  unfold vJ
  rw [x_ifM, x_andT, tst]
  simp only [R.bind_ok]
  by_cases hc : C = [[]]
  · refine ⟨.own (.lst (C.map D.str)), ?_⟩
    rw [if_neg (by simp [hc])]
    rfl
  · have told := e_told_stop (ga := ga) (as := as.take k) [encPen p] t1 t2 t3 (x := w) (rest := (as.drop k).map ruleT ++ ext) (.inl wn) wg (fun y hy => by
      rcases List.mem_append.mp hy with hy | hy
      · exact h.lines k y hy
      · exact (exg y hy).1) (by
      have := h.len
      simp only [List.length_append, List.length_map, List.length_drop]
      omega) (by rw [← hC2]; exact hc)
    rw [← hC2, tl] at told
    refine ⟨.dat (.lst (C.map D.str)), ?_⟩
    rw [if_pos (by simp [hc])]
    unfold sV
    simp -implicitDefEqProofs -dsimp [told]
theorem e_vL {as : List Lw} {one two : List Nat} (h : Ln as one two) {k : Nat} {l : Lw} (hl : l ∈ nearR one two) :
    vL ga (sV ns ⟨z2, z3, z4, z5, .dat (.lst ((as.map ruleT).map D.str)), .dat (.int (k : Int)), z8, z9, .dat (.str (ruleT l)), z11, z12, z13, z14⟩ p) = .ok .nx (sV ns ⟨z2, z3, z4, z5, .dat (.lst ((as.map ruleT).map D.str)), .dat (.int (k : Int)), z8, z9, .dat (.str (ruleT l)), z11, z12, z13, z14⟩ p) := by
  obtain ⟨n1, n2, n3⟩ := h.near k hl
  have t := e_told_all (ga := ga) [encPen p] n1 n2 n3
  have e1 : (as.take k ++ l :: as.drop k).map ruleT = (as.map ruleT).take k ++ ruleT l :: (as.map ruleT).drop k := by
    rw [List.map_append, List.map_cons, List.map_take, List.map_drop]
  rw [e1] at t
  have put := e_vPut (s := sV ns ⟨z2, z3, z4, z5, .dat (.lst ((as.map ruleT).map D.str)), .dat (.int (k : Int)), z8, z9, .dat (.str (ruleT l)), z11, z12, z13, z14⟩ p) (x := 10) (w := ruleT l) (ws := as.map ruleT) (k := k) rfl rfl rfl (by have := h.len; rw [List.length_map]; omega)
  have c := e_tellN (ga := ga) put t
  unfold vL
  rw [x_ifM, x_tstB, x_binD, c]
  rfl
theorem e_vM1 {as : List Lw} {one two : List Nat} (h : Ln as one two) {k : Nat} (hk : k ≤ as.length) (h0 : 0 < k) (ht : p.turn < 500000000) :
    ∃ (l : Lw) (q : Pen), vM1 ga (sV ns ⟨z2, z3, z4, z5, .dat (.lst ((as.map ruleT).map D.str)), .dat (.int (k : Int)), z8, z9, z10, z11, z12, z13, z14⟩ p) = .ok .nx (sV ns ⟨z2, z3, z4, z5, .dat (.lst ((as.map ruleT).map D.str)), .dat (.int (k : Int)), z8, z9, z10, .dat (.str (ruleT (againR l.mark))), z12, z13, z14⟩ q) ∧ l ∈ as.take k ∧ q.turn ≤ p.turn + 1 := by
  have hz : (1000000 : Nat) ≤ sizeLine := by decide
  have al := h.len
  obtain ⟨i, q, e, e1, e2, e3⟩ := e_draw (ga := ga) p k h0 (by omega) (by omega)
  have hi : i < as.length := by omega
  have hm : as[i] ∈ as.take k := List.mem_take_iff_getElem.mpr ⟨i, by omega, rfl⟩
  obtain ⟨l, hl⟩ : ∃ l, l = as[i] := ⟨_, rfl⟩
  rw [← hl] at hm
  have ls := h.ok l (List.mem_of_mem_take hm)
  refine ⟨l, q, ?_, hm, e3⟩
  have i1 : ∀ s, ixD s (.lst ((as.map ruleT).map D.str)) (.int (i : Int)) = some (.str (ruleT l)) := fun s => ixs_at (by rw [List.getElem?_map, List.getElem?_eq_getElem hi, hl]; rfl)
  have rg := rule_good ls
  have sp : ∀ s, splitD s (ruleT l) (.str (cs " ")) = some (.lst ((wordsL l).map D.str)) := fun s => by
    have := split_any (s := s) (x := ruleT l) (y := [32]) (by simp) (by decide) (by have := rg.len; omega)
    rw [ruleT_spl ls] at this
    exact this
  have i2 : ∀ s, ixD s (.lst ((wordsL l).map D.str)) (.int 1) = some (.str l.mark) := fun s => ixs_at (i := 1) (by rw [words_rest]; rfl)
  have ml := ls.v.m4
  have a1 : ∀ s, addA s (.str (cs "quote ")) (.str l.mark) = some (.str (cs "quote " ++ l.mark)) := fun s => by
    rw [addA_str, if_pos (by have : (cs "quote ").length = 6 := by decide +kernel
                             omega)]
  have a2 : ∀ s, addA s (.str (cs "quote " ++ l.mark)) (.str (cs " to .")) = some (.str (ruleT (againR l.mark))) := fun s => by
    rw [again_text, addA_str, if_pos (by
      have : (cs "quote ").length = 6 := by decide +kernel
      have : (cs " to .").length = 5 := by decide +kernel
      simp only [List.length_append]
      omega), List.append_assoc]
  unfold vM1 sV
  simp -implicitDefEqProofs -dsimp [e, i1, sp, i2, a1, a2, -addA_str, -List.map_map]
theorem e_vM2 {as : List Lw} {one two : List Nat} (h : Ln as one two) {k : Nat} (hk : k ≤ as.length) {l : Lw} (hl : l ∈ as.take k) :
    vM2 ga (sV ns ⟨z2, z3, z4, z5, .dat (.lst ((as.map ruleT).map D.str)), .dat (.int (k : Int)), z8, z9, z10, .dat (.str (ruleT (againR l.mark))), z12, z13, z14⟩ p) = .ok .nx (sV ns ⟨z2, z3, z4, z5, .dat (.lst ((as.map ruleT).map D.str)), .dat (.int (k : Int)), z8, z9, z10, .dat (.str (ruleT (againR l.mark))), z12, z13, z14⟩ p) := by
  obtain ⟨t1, t2, t3⟩ := h.tk k
  have al := h.len
  have ls := t1 l hl
  have mk : Mk4 l.mark := ⟨ls.v.m4, (fun z => by have := ls.v.m1; rw [z] at this; simp at this), ls.mark⟩
  have ag := again_ok mk
  have tl : (as.take k).length = k := by rw [List.length_take]; omega
  have told := e_told_stop (ga := ga) (as := as.take k) [encPen p] t1 t2 t3 (x := ruleT (againR l.mark)) (rest := (as.drop k).map ruleT) (.inr (.inr ⟨_, ruleT_line ag, List.mem_map.mpr ⟨l, hl, rfl⟩⟩)) (rule_good ag) (h.lines k) (by simp; omega) (fun z => by
    cases hq : as.take k with
    | nil => rw [hq] at hl; cases hl
    | cons a r =>
      rw [hq, List.map_cons, List.cons_append] at z
      have := (List.cons.inj z).2
      simp at this)
  rw [tl, List.map_take, List.map_drop] at told
  have put := e_vPut (s := sV ns ⟨z2, z3, z4, z5, .dat (.lst ((as.map ruleT).map D.str)), .dat (.int (k : Int)), z8, z9, z10, .dat (.str (ruleT (againR l.mark))), z12, z13, z14⟩ p) (x := 11) (w := ruleT (againR l.mark)) (ws := as.map ruleT) (k := k) rfl rfl rfl (by rw [List.length_map]; omega)
  have c := e_tellN (ga := ga) put told
  unfold vM2
  rw [x_ifM, x_tstB, x_binD, c]
  simp only [R.bind_ok]
  unfold sV
  simp -implicitDefEqProofs -dsimp
theorem e_vM3 {as : List Lw} {one two : List Nat} (h : Ln as one two) {k : Nat} (hk : k ≤ as.length) {l : Lw} (hl : l ∈ as.take k) {w : List Nat} (hw : w ∈ wrongL one two) :
    vM3 ga (sV ns ⟨z2, z3, z4, z5, .dat (.lst ((as.map ruleT).map D.str)), .dat (.int (k : Int)), .dat (.str w), z9, z10, .dat (.str (ruleT (againR l.mark))), z12, z13, z14⟩ p) = .ok .nx (sV ns ⟨z2, z3, z4, z5, .dat (.lst ((as.map ruleT).map D.str)), .dat (.int (k : Int)), .dat (.str w), z9, z10, .dat (.str (ruleT (againR l.mark))), z12, z13, z14⟩ p) := by
  obtain ⟨wn, wg⟩ := wrong_line h.h1 h.h2 hw
  obtain ⟨t1, t2, t3⟩ := h.tk k
  have al := h.len
  have ls := t1 l hl
  have mk : Mk4 l.mark := ⟨ls.v.m4, (fun z => by have := ls.v.m1; rw [z] at this; simp at this), ls.mark⟩
  have ag := again_ok mk
  have tl : (as.take k).length = k := by rw [List.length_take]; omega
  have told1 := e_told_stop (ga := ga) (as := as.take k) [encPen p] t1 t2 t3 (x := ruleT (againR l.mark)) (rest := [w]) (.inr (.inr ⟨_, ruleT_line ag, List.mem_map.mpr ⟨l, hl, rfl⟩⟩)) (rule_good ag) (fun y hy => by
    simp only [List.mem_singleton] at hy
    rw [hy]; exact wg) (by simp) (fun z => by
    have := congrArg List.length z
    simp at this)
  have told2 := e_told_stop (ga := ga) (as := as.take k) [encPen p] t1 t2 t3 (x := w) (rest := [ruleT (againR l.mark)]) (.inl wn) wg (fun y hy => by
    simp only [List.mem_singleton] at hy
    rw [hy]; exact rule_good ag) (by simp) (fun z => by
    have := congrArg List.length z
    simp at this)
  rw [tl, List.map_take] at told1 told2
  have put1 := e_vTwo (s := sV ns ⟨z2, z3, z4, z5, .dat (.lst ((as.map ruleT).map D.str)), .dat (.int (k : Int)), .dat (.str w), z9, z10, .dat (.str (ruleT (againR l.mark))), z12, z13, z14⟩ p) (x := 11) (y := 8) (w := ruleT (againR l.mark)) (v := w) (ws := as.map ruleT) (k := k) rfl rfl rfl rfl (by rw [List.length_map]; omega)
  have put2 := e_vTwo (s := sV ns ⟨z2, z3, z4, z5, .dat (.lst ((as.map ruleT).map D.str)), .dat (.int (k : Int)), .dat (.str w), z9, z10, .dat (.str (ruleT (againR l.mark))), z12, z13, z14⟩ p) (x := 8) (y := 11) (w := w) (v := ruleT (againR l.mark)) (ws := as.map ruleT) (k := k) rfl rfl rfl rfl (by rw [List.length_map]; omega)
  have c1 := e_tellN (ga := ga) put1 told1
  have c2 := e_tellN (ga := ga) put2 told2
  have ad : binD addA (vr 7) (mret (D.int 1)) (sV ns ⟨z2, z3, z4, z5, .dat (.lst ((as.map ruleT).map D.str)), .dat (.int (k : Int)), .dat (.str w), z9, z10, .dat (.str (ruleT (againR l.mark))), z12, z13, z14⟩ p) = .ok (.int ((k : Int) + 1)) (sV ns ⟨z2, z3, z4, z5, .dat (.lst ((as.map ruleT).map D.str)), .dat (.int (k : Int)), .dat (.str w), z9, z10, .dat (.str (ruleT (againR l.mark))), z12, z13, z14⟩ p) := by
    unfold sV
    simp -implicitDefEqProofs -dsimp
  unfold vM3
  rw [x_ifM, x_orT, x_tstB, x_binD, c1]
  simp only [R.bind_ok]
  rw [ad]
  simp only [R.bind_ok, ne_int, mo_some, decide_true, Bool.not_true, x_toB]
  rw [if_neg (by decide), x_tstB, x_binD, c2]
  simp only [R.bind_ok]
  rw [ad]
  simp only [R.bind_ok, ne_int, mo_some, decide_true, Bool.not_true, x_toB]
  rfl
theorem e_vM {as : List Lw} {one two : List Nat} (h : Ln as one two) {k : Nat} (hk : k ≤ as.length) {w : List Nat} (hw : w ∈ wrongL one two) (ht : p.turn < 500000000) :
    ∃ (y11 : Sl) (q : Pen), vM ga (sV ns ⟨z2, z3, z4, z5, .dat (.lst ((as.map ruleT).map D.str)), .dat (.int (k : Int)), .dat (.str w), z9, z10, z11, z12, z13, z14⟩ p) = .ok .nx (sV ns ⟨z2, z3, z4, z5, .dat (.lst ((as.map ruleT).map D.str)), .dat (.int (k : Int)), .dat (.str w), z9, z10, y11, z12, z13, z14⟩ q) ∧ q.turn ≤ p.turn + 1 := by
  have tst : tstB (binD fGt (vr 7) (mret (D.int 0))) (sV ns ⟨z2, z3, z4, z5, .dat (.lst ((as.map ruleT).map D.str)), .dat (.int (k : Int)), .dat (.str w), z9, z10, z11, z12, z13, z14⟩ p) = .ok (decide ((0 : Int) < (k : Int))) (sV ns ⟨z2, z3, z4, z5, .dat (.lst ((as.map ruleT).map D.str)), .dat (.int (k : Int)), .dat (.str w), z9, z10, z11, z12, z13, z14⟩ p) := by
    unfold sV
    simp -implicitDefEqProofs -dsimp
  unfold vM
  rw [x_ifM, tst]
  simp only [R.bind_ok]
  by_cases h0 : 0 < k
  · obtain ⟨l, q, e, e1, e2⟩ := e_vM1 (ga := ga) (ns := ns) (p := p) (z2 := z2) (z3 := z3) (z4 := z4) (z5 := z5) (z8 := .dat (.str w)) (z9 := z9) (z10 := z10) (z11 := z11) (z12 := z12) (z13 := z13) (z14 := z14) h hk h0 ht
    refine ⟨.dat (.str (ruleT (againR l.mark))), q, ?_, e2⟩
    rw [if_pos (by simpa using h0), x_sq, e]
    simp only [R.bind_ok]
    rw [x_sq, e_vM2 h hk e1]
    simp only [R.bind_ok]
    exact e_vM3 h hk e1 hw
  · refine ⟨z11, p, ?_, by omega⟩
    rw [if_neg (by simpa using h0)]
    rfl
theorem e_turn (ht : p.turn < 300000000) : ∃ (v : Vt) (q : Pen), tBody ga (sV ns ⟨z2, z3, z4, z5, z6, z7, z8, z9, z10, z11, z12, z13, z14⟩ p) = .ok .nx (sV ns v q) ∧ q.turn ≤ p.turn + 10000 := by
  obtain ⟨sg, q1, a1, a2, a3⟩ := e_vA (ga := ga) (ns := ns) (p := p) (z2 := z2) (z3 := z3) (z4 := z4) (z5 := z5) (z6 := z6) (z7 := z7) (z8 := z8) (z9 := z9) (z10 := z10) (z11 := z11) (z12 := z12) (z13 := z13) (z14 := z14) (by omega)
  obtain ⟨ms, q2, b1, b2, b3, b4, b5⟩ := e_vB (ga := ga) (ns := ns) (p := q1) (z2 := z2) (z4 := z4) (z5 := z5) (z6 := z6) (z7 := z7) (z8 := z8) (z9 := z9) (z10 := z10) (z11 := z11) (z12 := z12) (z13 := z13) (z14 := z14) sg a2 (by omega)
  obtain ⟨rs, q3, c1, c2, c3⟩ := e_vC (ga := ga) (ns := ns) (p := q2) (z2 := z2) (z5 := z5) (z6 := z6) (z7 := z7) (z8 := z8) (z9 := z9) (z10 := z10) (z11 := z11) (z12 := z12) (z13 := z13) (z14 := z14) sg a2 ms b2 b3 b4 (by omega)
  obtain ⟨q4, d1, d2⟩ := e_vD (ga := ga) (ns := ns) (p := q3) (z2 := z2) (z3 := .dat (.lst (sg.map encC))) (z4 := .dat (.lst (ms.map D.str))) (z6 := z6) (z7 := z7) (z8 := z8) (z9 := z9) (z10 := z10) (z11 := z11) (z12 := z12) (z13 := z13) (z14 := z14) ms rs c2 (by omega)
  obtain ⟨a, b, q5, e1, e2, e3, e4⟩ := e_vE (ga := ga) (ns := ns) (p := q4) (z2 := z2) (z3 := .dat (.lst (sg.map encC))) (z4 := .dat (.lst (ms.map D.str))) (z6 := z6) (z7 := z7) (z8 := z8) (z9 := z9) (z10 := z10) (z11 := z11) (z12 := z12) (z13 := z13) (z14 := z14) rs c2.rl (by omega)
  obtain ⟨one, two, m7, m8, ln⟩ := c2.ln a e2
  obtain ⟨as, has⟩ : ∃ as, as = rs.take a := ⟨_, rfl⟩
  rw [← has] at e1 ln
  have al := ln.len
  obtain ⟨k, k1, f1⟩ := e_vF (ns := ns) (p := q5) (z2 := z2) (z3 := .dat (.lst (sg.map encC))) (z4 := .dat (.lst (ms.map D.str))) (z5 := .dat (.lst ((rs.map ruleT).map D.str))) (z8 := z8) (z9 := z9) (z10 := z10) (z11 := z11) (z12 := z12) (z13 := z13) (z14 := z14) (as.map ruleT) b (by rw [List.length_map]; omega)
  rw [List.length_map] at k1
  obtain ⟨w, q6, g1, g2, g3⟩ := e_vG (ga := ga) (ns := ns) (p := q5) (z2 := z2) (z3 := .dat (.lst (sg.map encC))) (z5 := .dat (.lst ((rs.map ruleT).map D.str))) (z6 := .dat (.lst ((as.map ruleT).map D.str))) (z7 := .dat (.int (k : Int))) (z8 := z8) (z9 := z9) (z10 := z10) (z11 := z11) (z12 := z12) (z13 := z13) (z14 := z14) ms m7 m8 ln.h1 ln.h2 (by omega)
  have h1 := e_vH' (s := sV ns ⟨z2, .dat (.lst (sg.map encC)), .dat (.lst (ms.map D.str)), .dat (.lst ((rs.map ruleT).map D.str)), .dat (.lst ((as.map ruleT).map D.str)), .dat (.int (k : Int)), .dat (.str w), z9, z10, z11, z12, z13, z14⟩ q6) (ws := as.map ruleT) (k := k) (w := w) rfl rfl rfl (by rw [List.length_map]; omega)
  obtain ⟨C, hC⟩ : ∃ C, C = (as.map ruleT).take k ++ w :: (as.map ruleT).drop k := ⟨_, rfl⟩
  have hCl : C.length ≤ 100 := by
    rw [hC]
    simp only [List.length_append, List.length_cons, List.length_take, List.length_drop, List.length_map]
    omega
  rw [← hC] at h1
  have h1 : vH (sV ns ⟨z2, .dat (.lst (sg.map encC)), .dat (.lst (ms.map D.str)), .dat (.lst ((rs.map ruleT).map D.str)), .dat (.lst ((as.map ruleT).map D.str)), .dat (.int (k : Int)), .dat (.str w), z9, z10, z11, z12, z13, z14⟩ q6) = .ok .nx (sV ns ⟨z2, .dat (.lst (sg.map encC)), .dat (.lst (ms.map D.str)), .dat (.lst ((rs.map ruleT).map D.str)), .dat (.lst ((as.map ruleT).map D.str)), .dat (.int (k : Int)), .dat (.str w), .own (.lst (C.map D.str)), z10, z11, z12, z13, z14⟩ q6) := h1
  obtain ⟨ext, q7, i1, i2, i3⟩ := e_vI (ga := ga) (ns := ns) (p := q6) (z2 := z2) (z3 := .dat (.lst (sg.map encC))) (z5 := .dat (.lst ((rs.map ruleT).map D.str))) (z6 := .dat (.lst ((as.map ruleT).map D.str))) (z7 := .dat (.int (k : Int))) (z8 := .dat (.str w)) (z10 := z10) (z11 := z11) (z12 := z12) (z13 := z13) (z14 := z14) ms C m7 m8 ln.h1 ln.h2 hCl (by omega)
  obtain ⟨y9, j1⟩ := e_vJ (ga := ga) (ns := ns) (p := q7) (z2 := z2) (z3 := .dat (.lst (sg.map encC))) (z4 := .dat (.lst (ms.map D.str))) (z5 := .dat (.lst ((rs.map ruleT).map D.str))) (z6 := .dat (.lst ((as.map ruleT).map D.str))) (z8 := .dat (.str w)) (z10 := z10) (z11 := z11) (z12 := z12) (z13 := z13) (z14 := z14) ln k1 g2 i2
  rw [← hC] at j1
  obtain ⟨l, q8, l1, l2, l3⟩ := e_vK (ga := ga) (ns := ns) (p := q7) (z2 := z2) (z3 := .dat (.lst (sg.map encC))) (z5 := .dat (.lst ((rs.map ruleT).map D.str))) (z6 := .dat (.lst ((as.map ruleT).map D.str))) (z7 := .dat (.int (k : Int))) (z8 := .dat (.str w)) (z9 := y9) (z10 := z10) (z11 := z11) (z12 := z12) (z13 := z13) (z14 := z14) ms m7 m8 ln.h1 ln.h2 (by omega)
  have n1 := e_vL (ga := ga) (ns := ns) (p := q8) (z2 := z2) (z3 := .dat (.lst (sg.map encC))) (z4 := .dat (.lst (ms.map D.str))) (z5 := .dat (.lst ((rs.map ruleT).map D.str))) (z8 := .dat (.str w)) (z9 := y9) (z11 := z11) (z12 := z12) (z13 := z13) (z14 := z14) ln (k := k) l2
  obtain ⟨y11, q9, o1, o2⟩ := e_vM (ga := ga) (ns := ns) (p := q8) (z2 := z2) (z3 := .dat (.lst (sg.map encC))) (z4 := .dat (.lst (ms.map D.str))) (z5 := .dat (.lst ((rs.map ruleT).map D.str))) (z9 := y9) (z10 := .dat (.str (ruleT l))) (z11 := z11) (z12 := z12) (z13 := z13) (z14 := z14) ln k1 g2 (by omega)
  refine ⟨⟨z2, .dat (.lst (sg.map encC)), .dat (.lst (ms.map D.str)), .dat (.lst ((rs.map ruleT).map D.str)), .dat (.lst ((as.map ruleT).map D.str)), .dat (.int (k : Int)), .dat (.str w), y9, .dat (.str (ruleT l)), y11, z12, z13, z14⟩, q9, ?_, by omega⟩
  unfold tBody
  rw [x_sq, a1]
  simp only [R.bind_ok]
  rw [x_sq, b1]
  simp only [R.bind_ok]
  rw [x_sq, c1]
  simp only [R.bind_ok]
  rw [x_sq, d1]
  simp only [R.bind_ok]
  rw [x_sq, e1]
  simp only [R.bind_ok]
  rw [x_sq, f1]
  simp only [R.bind_ok]
  rw [x_sq, g1]
  simp only [R.bind_ok]
  rw [x_sq, h1]
  simp only [R.bind_ok]
  rw [x_sq, i1]
  simp only [R.bind_ok]
  rw [x_sq, j1]
  simp only [R.bind_ok]
  rw [x_sq, l1]
  simp only [R.bind_ok]
  rw [x_sq, n1]
  simp only [R.bind_ok]
  rw [o1]
end
theorem e_law (ns : List Int) (hn : ns.length ≤ 63) : ∃ mu, F_law ga [.scr ns] [] = .ok (.bl true) mu := by
  have hE : ∀ s : S, rngM1 (aCons (mret (D.int 6)) aNil) s = .ok (rngL 0 6) s := fun s => rng1 (n := 6) (by simp -implicitDefEqProofs -dsimp) (by omega)
  obtain ⟨s', l1, v, q, rfl, t⟩ := loop_inv (f := gN 2) (b := tBody ga) (fun n s => ∃ (v : Vt) (q : Pen), s = sV ns v q ∧ q.turn ≤ 10000 * n) (rngL 0 6) 0 (sV ns ⟨.non, .non, .non, .non, .non, .non, .non, .non, .non, .non, .non, .non, .non⟩ ⟨ns, 0, 0⟩) ⟨_, _, rfl, Nat.zero_le _⟩ (by
    rintro k d st hd ⟨v, q, rfl, t⟩
    have hk : k < 6 := by have := (List.getElem?_eq_some_iff.mp hd).1; rwa [rngL_len] at this
    have t' : q.turn ≤ 60000 := Nat.le_trans t (by rw [Nat.zero_add]; exact Nat.mul_le_mul_left 10000 (by omega : k ≤ 6))
    obtain ⟨v', q', e, t2⟩ := e_turn (ga := ga) (ns := ns) (p := q) (z2 := .dat d) (z3 := v.z3) (z4 := v.z4) (z5 := v.z5) (z6 := v.z6) (z7 := v.z7) (z8 := v.z8) (z9 := v.z9) (z10 := v.z10) (z11 := v.z11) (z12 := v.z12) (z13 := v.z13) (z14 := v.z14) (by omega)
    have b2 : q'.turn ≤ 10000 * (0 + k + 1) := by
      rw [Nat.zero_add] at t
      rw [Nat.zero_add, Nat.mul_succ]
      exact Nat.le_trans t2 (Nat.add_le_add_right t 10000)
    exact ⟨_, _, rfl, .inl e, v', q', rfl, b2⟩)
  refine ⟨[encPen q], ?_⟩
  have hb : begS 15 [.scr ns] = [.dat (.scr ns), .non, .non, .non, .non, .non, .non, .non, .non, .non, .non, .non, .non, .non, .non] := rfl
  unfold F_law
  rw [x_runB, hb, law_parts, x_sq, e_vInit hn]
  simp only [R.bind_ok]
  rw [x_sq, x_for, hE]
  simp only [R.bind_ok]
  rw [l1]
  simp only [R.bind_ok]
  rfl
end K02
end
section -- KE02
set_option Elab.async false
set_option linter.all false
set_option maxRecDepth 100000
set_option maxHeartbeats 0
namespace K02
open PySem PySem.Spec L2 DL
def spLaw (K : PySem.W.Frag) : Sp := fun vs H Q _ => ∃ (a : Addr) (ns : List Int), vs = [.ref a] ∧ ns.length ≤ 63 ∧ SqL K H a (ns.map V.int) ∧ ∀ H', Q (.bl true) H'
theorem sp_imp {K : PySem.W.Frag} (vs : List V) (H : Hp) (Q : VK) (E : XK) (h : spLaw K vs H Q E) : spF K 1 (F_law (He.ga K)) vs H Q E := by
  obtain ⟨a, ns, rfl, hl, hS, hQ⟩ := h
  refine ⟨rfl, ⟨H, []⟩, [.scr ns], [], ⟨fun _ _ h => h, rfl, fun k o a h => by simp at h, List.nodup_nil⟩, ⟨_, [], rfl, ⟨a, rfl, hS⟩, rfl⟩, ?_⟩
  obtain ⟨mu, e⟩ := e_law (ga := He.ga K) ns hl
  rw [e]
  intro v H' g' _ _ r
  have : v = .bl true := r
  rw [this]
  exact hQ H'
abbrev RR : PySem.W.OpenRow := PySem.W.OpenLaw.row PySem.Challenge.rw_commentedout_k02_tongues_refused
abbrev hk : PySem.W.Hook := hookX 4 fa fn ts exB er ks fileT
def ob (s : PySem.W.SharedT) : AlX := obX 4 fa fn ts exB er ks fileT (HandSHeadRun.getT s)
theorem ob_eq (s : PySem.W.SharedT) : ob s = hk.obs s.abs := obX_eq (HandSHeadRun.getT_eq s)
def loose : List PySem.Str := (["_wall", "RemarkError", "BadTongue", "BadCommand", "OUTSIDE", "WINDOW", "may_grow", "opening_step", "mark_step", "inner_step", "one_step", "pieces_in", "MARK_SIGNS", "LONGEST_MARK", "is_mark", "lines_of", "LETTERS", "TO_LINE", "Rule", "options_of", "rule_of", "MOST_RULES", "read_rules", "Tongue", "_law_begun_pen", "_law_draw", "_law_pick", "_law_shuffled", "_law_rule_text", "_law_mark_signs"] : List PySem.Str) ++ (["_law_new_mark", "_law_new_rule", "_law_wrong_lines", "_law_told", "_law_near_lines"] : List PySem.Str)
theorem run (w : World) : HandSHeadRun.RunEq RR (PySem.W.view RR.prog [41]) hk ob 4000 loose w := by
  refine PySem.W.byRow2 "special-get-raises" (P := fun w => HandSHeadRun.RunEq RR (PySem.W.view RR.prog [41]) hk ob 4000 loose w) (fun w => ?_) (fun w => ?_) w
  · intro os
    kernel_rfl
  · intro os
    kernel_rfl
/-- the end of a walk whose exceptions are told world by world -/
theorem walk_w {l : PySem.W.OpenLaw} {n k : Nat} {q : Program} {loose : List Str} {XP : (Str → Option Value) → Heap → Prop} {YP : World → Heap → Prop} {d : PySem.DefRec} {x : Str} (h1 : l.most = some n) (h2 : n ≤ sizeLine) (h3 : d.params.defaults = []) (h4 : Room k callerA)
    (F : ∀ (w : World) (mg : Str → Option Value) (a : Addr) (h : Heap), YP w h → h.Ns mainGlobals mg → mg d.name = some (.ref a) → ∃ (K : PySem.W.Frag) (fd : FuncData) (sp : Sp), K.In h ∧ (∀ (s : Shared) (u : Value), BindsTo s fd ⟨[u], []⟩ [(x, u)]) ∧
        (∀ (H : Hp) (b : Addr) (ns : List Int), ns.length ≤ n → Only H → SqL K H b (ns.map V.int) → sp [.ref b] H (fun v _ => v = .bl true) fun _ _ _ => False) ∧ ∀ base : Heap, K.In base → base.Ns mainGlobals mg → FnOk l.prog w K mg base (L2.CX l.prog w) k a fd [x] sp)
    (hX : ∀ (w : World) (H : Hp) (s : Shared) (e : Value) (s' : Shared), L2.CX l.prog w [] H s (fun _ _ _ => False) e s' → False) : PySem.W.WalkO q loose XP YP l.row.toRowW d [] (fun f vs => PySem.call f vs) := by
  refine Att.attach_call h1 h3 fun w s0 s1 mg mb fa o pm cd doc a vs ns G Y ho hd hcd hmg hob hin hln hg => ?_
  obtain ⟨K, fd, sp, kx, hb, hs, hF⟩ := F w mg fa _ Y G.T.g hmg
  exact law_call kx G.T.g G.T.b G.T.builtins G.T.nolimit hg hob hin (Nat.le_trans hln h2) h4 hF hb (fun H hO hS => hs H a ns hln hO hS) fun H e s' => hX w H s1 e s'
theorem facts {P : Program} {w : World} {K : PySem.W.Frag} {h : Heap} {mg : Str → Option Value} {f : Addr} (X : K.In h) (G : h.Ns mainGlobals mg) (hfa : mg ("law" : Str) = some (.ref f)) (c : He.SaysT fa fn ts w K) (ex : exX exB er ks fileT K = true) (errs : er.map (fun d => errW K d.cls) = er.map ErrD.val) (hf : ((P.main.file : Str) == fileT) = true) (ht : (P.main.scope.names.lookup ("super" : Str)).isSome = false) :
    ∃ fd : FuncData, (∀ (s : Shared) (v : Value), BindsTo s fd ⟨[v], []⟩ [("_law_script", v)]) ∧ ∀ base : Heap, K.In base → base.Ns mainGlobals mg → FnOk P w K mg base (L2.CX P w) 8 f fd ["_law_script"] (spLaw K) := by
  have T : Tx P w K mg := TxP.mk' ⟨⟨h, X, G⟩, c, ex⟩ errs hf ht
  obtain ⟨fd, F⟩ := T.says.d.def_ 18 (d := d_law) rfl
  have e := hfa.symm.trans (T.glo (x := "law") 23 rfl)
  cases e
  have b := FunD.bindsA (ps := ["_law_script"]) F fun _ _ _ _ _ _ us hl => match us, hl with | [_], _ => rfl
  exact ⟨fd, fun s v => b s [v] rfl, fun base _ _ => (ok_law T (fun_of F)).imp sp_imp⟩
end K02
open PySem PySem.W PySem.Calls PyProof.Rows
theorem PySem.Challenge.cw_commentedout_k02_tongues_refused_holds : PySem.Challenge.rw_commentedout_k02_tongues_refused.Holds := by
  w_on; o_law
  refine HandSHeadRun.head_any (r := OpenLaw.row PySem.Challenge.rw_commentedout_k02_tongues_refused) (q := view (OpenLaw.row PySem.Challenge.rw_commentedout_k02_tongues_refused).prog [41]) (H := K02.hk) (ob := K02.ob) (M := 4000) (loose := K02.loose) (d := HandSHeadRun.topDef (OpenLaw.row PySem.Challenge.rw_commentedout_k02_tongues_refused).prog 41) (kwd := []) K02.ob_eq
    (by kernel_rfl) (fun s => by kernel_rfl) K02.run (by kernel_rfl) (by kernel_rfl) (by kernel_rfl) (by rfl) (by first | assumption | decide +kernel) (by decide +kernel) ⟨rfl, rfl, rfl, rfl, rfl, by decide +kernel⟩ ?hw ?hc
  case hw => w_witness2
  case hc =>
    refine K02.walk_w (l := PySem.Challenge.rw_commentedout_k02_tongues_refused) (n := 63) (k := 8) (x := "_law_script") rfl (by decide) (by kernel_rfl) ⟨rfl, by decide, by decide⟩ ?F ?X
    case F =>
      intro w mg fa h Y G hmg0
      obtain ⟨K, KX, c, ex, errs⟩ := Y
      have hmg : mg ("law" : PySem.Str) = some (.ref fa) := by
        have e : (HandSHeadRun.topDef (OpenLaw.row PySem.Challenge.rw_commentedout_k02_tongues_refused).prog 41).name = ("law" : PySem.Str) := by kernel_rfl
        rw [← e]
        exact hmg0
      obtain ⟨fd, hb, hF⟩ := K02.facts (P := (PySem.Challenge.rw_commentedout_k02_tongues_refused).prog) (w := w) KX G hmg c ex errs (by kernel_rfl) (by kernel_rfl)
      exact ⟨K, fd, K02.spLaw K, KX, hb, fun H a ns hl _ hS => ⟨a, ns, rfl, hl, hS, fun _ => rfl⟩, hF⟩
    case X =>
      rintro w H s e s' ⟨_, _, _, _, _, _, _, _, _, _, _, _, z⟩
      exact z
end
