import PyProof.Rows.All
import Wide.All
import OpenK.AllK
import Wide.FinOn
import HandS.ForMost
import HandS.ForExc
import HandS.IsInst
import PySem.Challenge.RW_taskheart_k01_names_and_words
set_option Elab.async false
set_option linter.all false
set_option maxRecDepth 100000
set_option maxHeartbeats 8000000
/-! Dn: a denotation for the part of Python that stands here. D: data; Store: objects by number; M: what a piece of code gives. -/
namespace Dn
open PySem L2

inductive D where
  | non | bl (b : Bool) | int (i : Int) | str (s : Str)
  | lst (xs : List D) | tup (xs : List D)
  | dct (kvs : List (Key × D))
  | scr (ns : List Int)
  | obj (n : Nat)
  deriving Inhabited

/-- a field's value: data, a list of the field's own, a dict of the field's own -/
inductive FV where
  | f (d : D) | o (xs : List D) | k (kvs : List (Key × D))
  deriving Inhabited
structure Ob where
  cls : Str
  fs : List (Str × FV)
abbrev Store := List Ob

inductive R (α : Type) where
  | ok (a : α) (S : Store) | exc (c : Str) (S : Store) | bad
abbrev M (α : Type) := Store → R α
def R.sat {α : Type} (r : R α) (P : α → Store → Prop) (E : Str → Store → Prop) : Prop := match r with
  | .ok a S => P a S
  | .exc c S => E c S
  | .bad => False
def M.ret {α : Type} (a : α) : M α := fun S => .ok a S
def M.bad {α : Type} : M α := fun _ => .bad
def M.raise {α : Type} (c : Str) : M α := fun S => .exc c S
def M.bind {α β : Type} (m : M α) (k : α → M β) : M β := fun S => match m S with
  | .ok a S' => k a S'
  | .exc c S' => .exc c S'
  | .bad => .bad
theorem sat_bind {α β : Type} {m : M α} {k : α → M β} {S : Store} {P : β → Store → Prop} {E : Str → Store → Prop} (h : (M.bind m k S).sat P E) : (m S).sat (fun a S' => (k a S').sat P E) E := by
  unfold M.bind at h
  cases e : m S with
  | ok a S' => rw [e] at h; exact h
  | exc c S' => rw [e] at h; exact h
  | bad => rw [e] at h; exact h
theorem sat_mono {α : Type} {r : R α} {P P' : α → Store → Prop} {E E' : Str → Store → Prop} (h : r.sat P E) (hp : ∀ a S, P a S → P' a S) (he : ∀ c S, E c S → E' c S) : r.sat P' E' := by
  cases r with
  | ok a S => exact hp a S h
  | exc c S => exact he c S h
  | bad => exact h

/-! ### the ghost state -/
inductive Loc where
  | ob (n : Nat) | fl (n : Nat) (f : Str)
/-- where the objects, and their fields' own lists, stand; sc: the script -/
structure Pi where
  at_ : Loc → Option Addr
  sc : Addr → List Int → Prop
instance : CoeFun Pi (fun _ => Loc → Option Addr) := ⟨Pi.at_⟩
def PiLe (p p' : Pi) : Prop := (∀ n a, p (.ob n) = some a → p' (.ob n) = some a) ∧ ∀ a ns, p.sc a ns → p'.sc a ns
theorem PiLe.refl (p : Pi) : PiLe p p := ⟨fun _ _ h => h, fun _ _ h => h⟩
theorem PiLe.trans {p q r : Pi} (a : PiLe p q) (b : PiLe q r) : PiLe p r := ⟨fun n x h => b.1 n x (a.1 n x h), fun n x h => b.2 n x (a.2 n x h)⟩
/-- the classes' addresses, the written part -/
structure Ct where
  cls : Str → Addr
  K : PySem.W.Frag
instance : CoeFun Ct (fun _ => Str → Addr) := ⟨Ct.cls⟩
structure G where
  F : Hp
  H : Hp
  p : Pi

mutual
inductive Rp (F : Hp) (p : Pi) : V → D → Prop where
  | non : Rp F p .non .non
  | bl (b : Bool) : Rp F p (.bl b) (.bl b)
  | int (i : Int) : Rp F p (.int i) (.int i)
  | str (x : Str) : Rp F p (.str x) (.str x)
  | lst {a : Addr} {vs : List V} {ds : List D} : F a = some (.lst vs) → RpA F p vs ds → Rp F p (.ref a) (.lst ds)
  | tup {a : Addr} {vs : List V} {ds : List D} : F a = some (.tup vs) → RpA F p vs ds → Rp F p (.ref a) (.tup ds)
  | dct {a : Addr} {vs : List (Key × V)} {ds : List (Key × D)} : F a = some (.dK vs) → RpK F p vs ds → Rp F p (.ref a) (.dct ds)
  | scr {a : Addr} {ns : List Int} : p.sc a ns → Rp F p (.ref a) (.scr ns)
  | obj {a : Addr} {n : Nat} : p (.ob n) = some a → Rp F p (.ref a) (.obj n)
inductive RpA (F : Hp) (p : Pi) : List V → List D → Prop where
  | nil : RpA F p [] []
  | cons {v : V} {d : D} {vs : List V} {ds : List D} : Rp F p v d → RpA F p vs ds → RpA F p (v :: vs) (d :: ds)
inductive RpK (F : Hp) (p : Pi) : List (Key × V) → List (Key × D) → Prop where
  | nil : RpK F p [] []
  | cons {k : Key} {v : V} {d : D} {vs : List (Key × V)} {ds : List (Key × D)} : Rp F p v d → RpK F p vs ds → RpK F p ((k, v) :: vs) ((k, d) :: ds)
end

section mono
variable {F F' : Hp} {p p' : Pi} (e : Same F F') (q : PiLe p p')
include e q
mutual
theorem Rp.mono : ∀ {v : V} {d : D}, Rp F p v d → Rp F' p' v d
  | _, _, .non => .non
  | _, _, .bl b => .bl b
  | _, _, .int i => .int i
  | _, _, .str x => .str x
  | _, _, .lst h t => .lst (e _ _ h) (RpA.mono t)
  | _, _, .tup h t => .tup (e _ _ h) (RpA.mono t)
  | _, _, .dct h t => .dct (e _ _ h) (RpK.mono t)
  | _, _, .scr h => .scr (q.2 _ _ h)
  | _, _, .obj h => .obj (q.1 _ _ h)
theorem RpA.mono : ∀ {vs : List V} {ds : List D}, RpA F p vs ds → RpA F' p' vs ds
  | _, _, .nil => .nil
  | _, _, .cons h t => .cons (Rp.mono h) (RpA.mono t)
theorem RpK.mono : ∀ {vs : List (Key × V)} {ds : List (Key × D)}, RpK F p vs ds → RpK F' p' vs ds
  | _, _, .nil => .nil
  | _, _, .cons h t => .cons (Rp.mono h) (RpK.mono t)
end
end mono

section lists
variable {F : Hp} {p : Pi}
theorem RpA.length : ∀ {vs : List V} {ds : List D}, RpA F p vs ds → vs.length = ds.length
  | _, _, .nil => rfl
  | _, _, .cons _ t => by simp [RpA.length t]
theorem RpA.append : ∀ {vs ws : List V} {ds es : List D}, RpA F p vs ds → RpA F p ws es → RpA F p (vs ++ ws) (ds ++ es)
  | _, _, _, _, .nil, s => s
  | _, _, _, _, .cons h t, s => .cons h (RpA.append t s)
theorem RpA.one {v : V} {d : D} (h : Rp F p v d) : RpA F p [v] [d] := .cons h .nil
theorem RpA.take : ∀ (n : Nat) {vs : List V} {ds : List D}, RpA F p vs ds → RpA F p (vs.take n) (ds.take n)
  | 0, _, _, _ => .nil
  | _ + 1, _, _, .nil => .nil
  | n + 1, _, _, .cons h t => .cons h (RpA.take n t)
theorem RpA.drop : ∀ (n : Nat) {vs : List V} {ds : List D}, RpA F p vs ds → RpA F p (vs.drop n) (ds.drop n)
  | 0, _, _, h => h
  | _ + 1, _, _, .nil => .nil
  | n + 1, _, _, .cons _ t => RpA.drop n t
theorem RpA.set : ∀ (n : Nat) {v : V} {d : D} {vs : List V} {ds : List D}, Rp F p v d → RpA F p vs ds → RpA F p (vs.set n v) (ds.set n d)
  | _, _, _, _, _, _, .nil => .nil
  | 0, _, _, _, _, h, .cons _ t => .cons h t
  | n + 1, _, _, _, _, h, .cons g t => .cons g (RpA.set n h t)
theorem RpA.eraseIdx : ∀ (n : Nat) {vs : List V} {ds : List D}, RpA F p vs ds → RpA F p (vs.eraseIdx n) (ds.eraseIdx n)
  | _, _, _, .nil => .nil
  | 0, _, _, .cons _ t => t
  | n + 1, _, _, .cons g t => .cons g (RpA.eraseIdx n t)
theorem RpA.get : ∀ (n : Nat) {vs : List V} {ds : List D} {d : D}, RpA F p vs ds → ds[n]? = some d → ∃ v, vs[n]? = some v ∧ Rp F p v d
  | _, _, _, _, .nil, e => by simp at e
  | 0, _, _, _, .cons h _, e => by simp at e; subst e; exact ⟨_, rfl, h⟩
  | n + 1, _, _, _, .cons _ t, e => by
    obtain ⟨v, h1, h2⟩ := RpA.get n t (by simpa using e)
    exact ⟨v, by simpa using h1, h2⟩
theorem RpA.getV : ∀ (n : Nat) {vs : List V} {ds : List D} {v : V}, RpA F p vs ds → vs[n]? = some v → ∃ d, ds[n]? = some d ∧ Rp F p v d
  | _, _, _, _, .nil, e => by simp at e
  | 0, _, _, _, .cons h _, e => by simp at e; subst e; exact ⟨_, rfl, h⟩
  | n + 1, _, _, _, .cons _ t, e => by
    obtain ⟨v, h1, h2⟩ := RpA.getV n t (by simpa using e)
    exact ⟨v, by simpa using h1, h2⟩
theorem RpA.ints : ∀ (ns : List Int), RpA F p (ns.map V.int) (ns.map D.int)
  | [] => .nil
  | n :: ns => .cons (.int n) (RpA.ints ns)
end lists

/-- what a piece of code leaves as it was; m: nothing of the store is written -/
structure Ext (m : Bool) (g g' : G) : Prop where
  same : Same g.F g'.F
  stay : ∀ b o, g.H b = some o → g.F b = none → (∀ l, g.p l ≠ some b) → g'.H b = some o ∧ g'.F b = none ∧ ∀ l, g'.p l ≠ some b
  obs : PiLe g.p g'.p
  dom : ∀ b, g'.H b = none → g.H b = none
  pure : m = true → g'.p = g.p ∧ ∀ l a o, g.p l = some a → g.H a = some o → g'.H a = some o
theorem Ext.refl {m : Bool} (g : G) : Ext m g g := ⟨Same.refl _, fun _ _ h f q => ⟨h, f, q⟩, PiLe.refl _, fun _ h => h, fun _ => ⟨rfl, fun _ _ _ _ h => h⟩⟩
theorem Ext.down {m : Bool} {g g' : G} (e : Ext true g g') : Ext m g g' := ⟨e.same, e.stay, e.obs, e.dom, fun _ => e.pure rfl⟩
theorem Ext.f {m : Bool} {g g' : G} (e : Ext m g g') : Ext false g g' := ⟨e.same, e.stay, e.obs, e.dom, fun h => nomatch h⟩
theorem Ext.trans {m : Bool} {g g1 g2 : G} (a : Ext m g g1) (b : Ext m g1 g2) : Ext m g g2 :=
  ⟨a.same.trans b.same, fun c o h f q => let ⟨h1, f1, q1⟩ := a.stay c o h f q; b.stay c o h1 f1 q1, a.obs.trans b.obs, fun c h => a.dom c (b.dom c h), fun h => by
    obtain ⟨p1, k1⟩ := a.pure h
    obtain ⟨p2, k2⟩ := b.pure h
    exact ⟨p2.trans p1, fun l c o x y => k2 l c o (by rw [p1]; exact x) (k1 l c o x y)⟩⟩
theorem Ext.rp {m : Bool} {g g' : G} (e : Ext m g g') {v : V} {d : D} (h : Rp g.F g.p v d) : Rp g'.F g'.p v d := Rp.mono e.same e.obs h
theorem Ext.rpA {m : Bool} {g g' : G} (e : Ext m g g') {v : List V} {d : List D} (h : RpA g.F g.p v d) : RpA g'.F g'.p v d := RpA.mono e.same e.obs h
theorem Ext.rpK {m : Bool} {g g' : G} (e : Ext m g g') {v : List (Key × V)} {d : List (Key × D)} (h : RpK g.F g.p v d) : RpK g'.F g'.p v d := RpK.mono e.same e.obs h

/-- the script's list: known to the object, or of the written part -/
def Ks (K : PySem.W.Frag) (H : Hp) (a : Addr) (ns : List Int) : Prop := (∃ o, H a = some (.frz o (.lst (ns.map V.int)))) ∨ ∀ H', SqL K H' a (ns.map V.int)
theorem Ks.sq {K : PySem.W.Frag} {H : Hp} {a : Addr} {ns : List Int} (h : Ks K H a ns) : SqL K H a (ns.map V.int) := by
  rcases h with ⟨o, h⟩ | h
  · exact .inl (.inr ⟨o, h⟩)
  · exact h H
theorem Ks.keep {K : PySem.W.Frag} {H H' : Hp} {a : Addr} {ns : List Int} (h : Ks K H a ns) (k : ∀ a o u, H a = some (.frz o u) → H' a = some (.frz o u)) : Ks K H' a ns := by
  rcases h with ⟨o, h⟩ | h
  · exact .inl ⟨o, k _ _ _ h⟩
  · exact .inr h
/-- a field's value as it stands -/
def FvOk (g : G) (n : Nat) (f : Str) (v : V) : FV → Prop
  | .f d => Rp g.F g.p v d
  | .o xs => ∃ l vs, v = .ref l ∧ g.p (.fl n f) = some l ∧ g.H l = some (.lst vs) ∧ RpA g.F g.p vs xs
  | .k kvs => ∃ l vs, v = .ref l ∧ g.p (.fl n f) = some l ∧ g.H l = some (.dK vs) ∧ RpK g.F g.p vs kvs
inductive FsOk (g : G) (n : Nat) : List (Str × V) → List (Str × FV) → Prop where
  | nil : FsOk g n [] []
  | cons {f : Str} {v : V} {w : FV} {vs : List (Str × V)} {ws : List (Str × FV)} : FvOk g n f v w → FsOk g n vs ws → FsOk g n ((f, v) :: vs) ((f, w) :: ws)
structure SOk (ca : Ct) (g : G) (S : Store) : Prop where
  same : Same g.F g.H
  inj : ∀ l l' a, g.p l = some a → g.p l' = some a → l = l'
  out : ∀ l a, g.p l = some a → g.F a = none
  live : ∀ l a, g.p l = some a → ∃ o, g.H a = some o
  obs : ∀ n ob, S[n]? = some ob → ∃ a dx fs, g.p (.ob n) = some a ∧ g.H a = some (.ins (ca ob.cls) dx fs) ∧ FsOk g n fs ob.fs
  sc : ∀ a ns, g.p.sc a ns → Ks ca.K g.H a ns
  lt : ∀ n a, g.p (.ob n) = some a → n < S.length
  lf : ∀ n f a, g.p (.fl n f) = some a → n < S.length

/-! ### the local names -/
inductive EV where
  | u | f (d : D) | o (xs : List D) | k (kvs : List (Key × D))
  deriving Inhabited
abbrev En := List EV
def EV.own : EV → Bool
  | .o _ => true
  | .k _ => true
  | _ => false
/-- an address of the frame's own -/
structure OwnAt (H0 : Hp) (g : G) (q : Addr) : Prop where
  out : g.F q = none
  nop : ∀ l, g.p l ≠ some q
  new : H0 q = none
def EvOk (H0 : Hp) (g : G) (v : Option V) : EV → Prop
  | .u => True
  | .f d => ∃ w, v = some w ∧ Rp g.F g.p w d
  | .o xs => ∃ q vs, v = some (.ref q) ∧ g.H q = some (.lst vs) ∧ RpA g.F g.p vs xs ∧ OwnAt H0 g q
  | .k xs => ∃ q vs, v = some (.ref q) ∧ g.H q = some (.dK vs) ∧ RpK g.F g.p vs xs ∧ OwnAt H0 g q
structure EnvOk (H0 : Hp) (g : G) (σ : L2.St) (env : En) : Prop where
  len : σ.length = env.length
  at_ : ∀ (i : Nat) v w, σ[i]? = some v → env[i]? = some w → EvOk H0 g v w
  apart : ∀ (i j : Nat) v w w', i ≠ j → σ[i]? = some (some v) → σ[j]? = some (some v) → env[i]? = some w → env[j]? = some w' → w.own = true → w'.own = true → False
theorem OwnAt.ext {m : Bool} {H0 : Hp} {g g' : G} {q : Addr} {o : HO} (h : OwnAt H0 g q) (hq : g.H q = some o) (e : Ext m g g') : OwnAt H0 g' q ∧ g'.H q = some o :=
  let ⟨a, b, c⟩ := e.stay q o hq h.out h.nop
  ⟨⟨b, c, h.new⟩, a⟩
theorem EvOk.ext {m : Bool} {H0 : Hp} {g g' : G} {v : Option V} (e : Ext m g g') : ∀ {w : EV}, EvOk H0 g v w → EvOk H0 g' v w
  | .u, _ => trivial
  | .f d, ⟨w, h1, h2⟩ => ⟨w, h1, e.rp h2⟩
  | .o xs, ⟨q, vs, h1, h2, h3, h4⟩ => let ⟨a, b⟩ := h4.ext h2 e; ⟨q, vs, h1, b, e.rpA h3, a⟩
  | .k xs, ⟨q, vs, h1, h2, h3, h4⟩ => let ⟨a, b⟩ := h4.ext h2 e; ⟨q, vs, h1, b, e.rpK h3, a⟩
theorem EnvOk.ext {m : Bool} {H0 : Hp} {g g' : G} {σ : L2.St} {env : En} (h : EnvOk H0 g σ env) (e : Ext m g g') : EnvOk H0 g' σ env :=
  ⟨h.len, fun i v w a b => (h.at_ i v w a b).ext e, h.apart⟩
theorem EnvOk.get {H0 : Hp} {g : G} {σ : L2.St} {env : En} (h : EnvOk H0 g σ env) {i : Nat} {w : EV} (e : env[i]? = some w) : ∃ v, σ[i]? = some v ∧ EvOk H0 g v w := by
  have hi : i < σ.length := by rw [h.len]; exact (List.getElem?_eq_some_iff.mp e).1
  exact ⟨σ[i], List.getElem?_eq_getElem hi, h.at_ i _ w (List.getElem?_eq_getElem hi) e⟩
theorem EnvOk.var {H0 : Hp} {g : G} {σ : L2.St} {env : En} (h : EnvOk H0 g σ env) {i : Nat} {d : D} (e : env[i]? = some (.f d)) : ∃ v, σ[i]? = some (some v) ∧ Rp g.F g.p v d := by
  obtain ⟨v, h1, w, h2, h3⟩ := h.get e
  exact ⟨w, by rw [h1, h2], h3⟩
/-- a slot takes data -/
theorem EnvOk.set {H0 : Hp} {g : G} {σ : L2.St} {env : En} (h : EnvOk H0 g σ env) (i : Nat) {v : V} {d : D} (r : Rp g.F g.p v d) : EnvOk H0 g (σ.set i (some v)) (env.set i (.f d)) := by
  refine ⟨by simp [h.len], fun j w x a b => ?_, fun j k w x x' ne a b c d' o o' => ?_⟩
  · by_cases hj : i = j
    · subst hj
      have hi : i < env.length := by
        have := (List.getElem?_eq_some_iff.mp b).1
        simpa using this
      rw [List.getElem?_set_self hi] at b
      rw [List.getElem?_set_self (by rw [h.len]; exact hi)] at a
      cases a; cases b
      exact ⟨v, rfl, r⟩
    · rw [List.getElem?_set_ne hj] at a b
      exact h.at_ j w x a b
  · by_cases hj : i = j
    · subst hj
      have hi : i < env.length := by
        have := (List.getElem?_eq_some_iff.mp c).1
        simpa using this
      rw [List.getElem?_set_self hi] at c
      cases c
      cases o
    · by_cases hk : i = k
      · subst hk
        have hi : i < env.length := by
          have := (List.getElem?_eq_some_iff.mp d').1
          simpa using this
        rw [List.getElem?_set_self hi] at d'
        cases d'
        cases o'
      · rw [List.getElem?_set_ne hj] at a c
        rw [List.getElem?_set_ne hk] at b d'
        exact h.apart j k w x x' ne a b c d' o o'
end Dn

namespace Dn
open PySem L2

/-! ### what is wanted of an expression -/
section
variable (m : Bool) (ca : Ct)
def okE (g : G) (Q : VK) : D → Store → Prop := fun d S' => ∀ g' v, Ext m g g' → SOk ca g' S' → Rp g'.F g'.p v d → Q v g'.H
def okT (g : G) (Q : Bool → Hp → Prop) : Bool → Store → Prop := fun b S' => ∀ g', Ext m g g' → SOk ca g' S' → Q b g'.H
def okA (g : G) (Q : List V → Hp → Prop) : List D → Store → Prop := fun ds S' => ∀ g' vs, Ext m g g' → SOk ca g' S' → RpA g'.F g'.p vs ds → Q vs g'.H
/-- a new list of nobody's -/
def okO (g : G) (Q : VK) : List D → Store → Prop := fun ds S' => ∀ g' q vs, Ext m g g' → SOk ca g' S' → g.H q = none → g'.H q = some (.lst vs) → g'.F q = none → (∀ l, g'.p l ≠ some q) → RpA g'.F g'.p vs ds → Q (.ref q) g'.H
/-- a new dict of nobody's -/
def okK (g : G) (Q : VK) : List (Key × D) → Store → Prop := fun ds S' => ∀ g' q vs, Ext m g g' → SOk ca g' S' → g.H q = none → g'.H q = some (.dK vs) → g'.F q = none → (∀ l, g'.p l ≠ some q) → RpK g'.F g'.p vs ds → Q (.ref q) g'.H
def exE (W : WX) (g : G) (σ : L2.St) : Str → Store → Prop := fun c S' => ∀ g', Ext m g g' → SOk ca g' S' → W (.ref (ca c)) none σ g'.H
variable {m ca}
theorem okE.mono {g g1 : G} {Q : VK} {d : D} {S : Store} (h : okE m ca g Q d S) (e : Ext m g g1) : okE m ca g1 Q d S := fun g' v e' s r => h g' v (e.trans e') s r
theorem okT.mono {g g1 : G} {Q : Bool → Hp → Prop} {d : Bool} {S : Store} (h : okT m ca g Q d S) (e : Ext m g g1) : okT m ca g1 Q d S := fun g' e' s => h g' (e.trans e') s
theorem okA.mono {g g1 : G} {Q : List V → Hp → Prop} {d : List D} {S : Store} (h : okA m ca g Q d S) (e : Ext m g g1) : okA m ca g1 Q d S := fun g' v e' s r => h g' v (e.trans e') s r
theorem okO.mono {g g1 : G} {Q : VK} {d : List D} {S : Store} (h : okO m ca g Q d S) (e : Ext m g g1) : okO m ca g1 Q d S := fun g' q v e' s n a b c r => h g' q v (e.trans e') s (e.dom _ n) a b c r
theorem okK.mono {g g1 : G} {Q : VK} {d : List (Key × D)} {S : Store} (h : okK m ca g Q d S) (e : Ext m g g1) : okK m ca g1 Q d S := fun g' q v e' s n a b c r => h g' q v (e.trans e') s (e.dom _ n) a b c r
theorem exE.mono {W : WX} {g g1 : G} {σ : L2.St} {c : Str} {S : Store} (h : exE m ca W g σ c S) (e : Ext m g g1) : exE m ca W g1 σ c S := fun g' e' s => h g' (e.trans e') s
end

/-- read as d for now: data, or a list (a dict) of the frame's own; while nothing of the store is written, of a field's own, too -/
def Bo (m : Bool) (g : G) (q : Addr) : Prop := g.F q = none ∧ ((∀ l, g.p l ≠ some q) ∨ (m = true ∧ ∃ l, g.p l = some q))
theorem Bo.ext {m : Bool} {g g' : G} {q : Addr} {o : HO} (h : Bo m g q) (hq : g.H q = some o) (hS : ∀ l a, g'.p l = some a → g'.F a = none) (e : Ext m g g') : Bo m g' q ∧ g'.H q = some o := by
  obtain ⟨h1, h2 | ⟨h2, l, h3⟩⟩ := h
  · obtain ⟨a, b, c⟩ := e.stay q o hq h1 h2
    exact ⟨⟨b, .inl c⟩, a⟩
  · obtain ⟨k1, k2⟩ := e.pure h2
    have k3 : g'.p l = some q := by rw [k1]; exact h3
    exact ⟨⟨hS l q k3, .inr ⟨h2, l, k3⟩⟩, k2 l q o h3 hq⟩
def Rb (m : Bool) (g : G) (v : V) (d : D) : Prop := Rp g.F g.p v d ∨ (∃ q vs xs, v = .ref q ∧ d = .lst xs ∧ g.H q = some (.lst vs) ∧ Bo m g q ∧ RpA g.F g.p vs xs) ∨
  ∃ q vs xs, v = .ref q ∧ d = .dct xs ∧ g.H q = some (.dK vs) ∧ Bo m g q ∧ RpK g.F g.p vs xs
theorem Rb.ext {m : Bool} {ca : Ct} {S : Store} {g g' : G} {v : V} {d : D} (h : Rb m g v d) (hS : SOk ca g' S) (e : Ext m g g') : Rb m g' v d := by
  rcases h with h | ⟨q, vs, xs, h1, h2, h3, h4, h6⟩ | ⟨q, vs, xs, h1, h2, h3, h4, h6⟩
  · exact .inl (e.rp h)
  · obtain ⟨a, b⟩ := h4.ext h3 hS.out e
    exact .inr (.inl ⟨q, vs, xs, h1, h2, b, a, e.rpA h6⟩)
  · obtain ⟨a, b⟩ := h4.ext h3 hS.out e
    exact .inr (.inr ⟨q, vs, xs, h1, h2, b, a, e.rpK h6⟩)
def okB (m : Bool) (ca : Ct) (g : G) (Q : VK) : D → Store → Prop := fun d S' => ∀ g' v, Ext m g g' → SOk ca g' S' → Rb m g' v d → Q v g'.H
def DB (m : Bool) (X : Cx) (W : WX) (ca : Ct) (e : Expr) (f : En → M D) : Prop :=
  ∃ t, PE X e t ∧ ∀ H0 g S σ env, SOk ca g S → EnvOk H0 g σ env → ∀ Q : VK, (f env S).sat (okB m ca g Q) (exE m ca W g σ) → t σ g.H Q
def DE (m : Bool) (X : Cx) (W : WX) (ca : Ct) (e : Expr) (f : En → M D) : Prop :=
  ∃ t, PE X e t ∧ ∀ H0 g S σ env, SOk ca g S → EnvOk H0 g σ env → ∀ Q : VK, (f env S).sat (okE m ca g Q) (exE m ca W g σ) → t σ g.H Q
def DO (m : Bool) (X : Cx) (W : WX) (ca : Ct) (e : Expr) (f : En → M (List D)) : Prop :=
  ∃ t, PE X e t ∧ ∀ H0 g S σ env, SOk ca g S → EnvOk H0 g σ env → ∀ Q : VK, (f env S).sat (okO m ca g Q) (exE m ca W g σ) → t σ g.H Q
def DK (m : Bool) (X : Cx) (W : WX) (ca : Ct) (e : Expr) (f : En → M (List (Key × D))) : Prop :=
  ∃ t, PE X e t ∧ ∀ H0 g S σ env, SOk ca g S → EnvOk H0 g σ env → ∀ Q : VK, (f env S).sat (okK m ca g Q) (exE m ca W g σ) → t σ g.H Q
def DT (m : Bool) (X : Cx) (W : WX) (ca : Ct) (e : Expr) (f : En → M Bool) : Prop :=
  ∃ t, PT X e t ∧ ∀ H0 g S σ env, SOk ca g S → EnvOk H0 g σ env → ∀ Q : Bool → Hp → Prop, (f env S).sat (okT m ca g Q) (exE m ca W g σ) → t σ g.H Q
def DW (m : Bool) (X : Cx) (W : WX) (ca : Ct) (e : Expr) (f : En → M Bool) : Prop :=
  ∃ t, PW X e t ∧ ∀ H0 g S σ env, SOk ca g S → EnvOk H0 g σ env → ∀ Q : Bool → Hp → Prop, (f env S).sat (okT m ca g Q) (exE m ca W g σ) → t σ g.H Q
def DA (m : Bool) (X : Cx) (W : WX) (ca : Ct) (es : List Expr) (f : En → M (List D)) : Prop :=
  ∃ t, PA X es t ∧ ∀ H0 g S σ env, SOk ca g S → EnvOk H0 g σ env → ∀ Q : List V → Hp → Prop, (f env S).sat (okA m ca g Q) (exE m ca W g σ) → t σ g.H Q

/-- a new list as data -/
def eO (f : En → M (List D)) : En → M D := fun env => M.bind (f env) fun xs => M.ret (.lst xs)
theorem DE.b {m : Bool} {X : Cx} {W : WX} {ca : Ct} {e : Expr} {f : En → M D} (h : DE m X W ca e f) : DB m X W ca e f := by
  obtain ⟨t, p, k⟩ := h
  exact ⟨t, p, fun H0 g S σ env hS hE Q h => k H0 g S σ env hS hE Q (sat_mono h (fun d S' q g' v e s r => q g' v e s (.inl r)) fun _ _ q => q)⟩
theorem DO.b {m : Bool} {X : Cx} {W : WX} {ca : Ct} {e : Expr} {f : En → M (List D)} (h : DO m X W ca e f) : DB m X W ca e (eO f) := by
  obtain ⟨t, p, k⟩ := h
  refine ⟨t, p, fun H0 g S σ env hS hE Q h => k H0 g S σ env hS hE Q (sat_mono (sat_bind h) (fun xs S' q g' a vs e s n h1 h2 h3 r => ?_) fun _ _ q => q)⟩
  have q : okB m ca g Q (.lst xs) S' := q
  exact q g' _ e s (.inr (.inl ⟨a, vs, xs, rfl, rfl, h1, ⟨h2, .inl h3⟩, r⟩))

/-! ### new objects -/
theorem FsOk.keep {m : Bool} {g g' : G} {n : Nat} (e : Ext m g g') (hp : ∀ l a, g.p l = some a → g'.p l = some a) (hH : ∀ l a o, g.p l = some a → g.H a = some o → g'.H a = some o) :
    ∀ {vs : List (Str × V)} {ws : List (Str × FV)}, FsOk g n vs ws → FsOk g' n vs ws
  | _, _, .nil => .nil
  | _, _, .cons (w := w) h t => .cons (by
      cases w with
      | f d => exact e.rp h
      | o xs => obtain ⟨l, vs, h1, h2, h3, h4⟩ := h; exact ⟨l, vs, h1, hp _ _ h2, hH _ _ _ h2 h3, e.rpA h4⟩
      | k xs => obtain ⟨l, vs, h1, h2, h3, h4⟩ := h; exact ⟨l, vs, h1, hp _ _ h2, hH _ _ _ h2 h3, e.rpK h4⟩) (FsOk.keep e hp hH t)
/-- all that stood stands, the places are the same -/
theorem SOk.keep {m : Bool} {ca : Ct} {g g' : G} {S : Store} (h : SOk ca g S) (e : Ext m g g') (hp : g'.p = g.p) (hH : ∀ l a o, g.p l = some a → g.H a = some o → g'.H a = some o) (hs : Same g'.F g'.H) (ho : ∀ l a, g.p l = some a → g'.F a = none) (hz : ∀ a o u, g.H a = some (.frz o u) → g'.H a = some (.frz o u)) : SOk ca g' S where
  same := hs
  inj := by rw [hp]; exact h.inj
  out := by rw [hp]; exact ho
  live := fun l a q => by
    rw [hp] at q
    obtain ⟨o, h1⟩ := h.live l a q
    exact ⟨o, hH l a o q h1⟩
  obs := fun n ob q => by
    obtain ⟨a, dx, fs, h1, h2, h3⟩ := h.obs n ob q
    exact ⟨a, dx, fs, by rw [hp]; exact h1, hH _ _ _ h1 h2, h3.keep e (fun l a z => by rw [hp]; exact z) hH⟩
  sc := fun a ns q => (h.sc a ns (by rw [← hp]; exact q)).keep hz
  lt := by rw [hp]; exact h.lt
  lf := by rw [hp]; exact h.lf
theorem Same.updL {F H : Hp} {q : Addr} {o : HO} (h : Same F H) (n : H q = none) : Same F (upd H q o) := fun b u e => by
  rw [upd_ne (ne_of_none (h _ _ e) n)]; exact h _ _ e
theorem Same.updB {F H : Hp} {q : Addr} {o : HO} (h : Same F H) (n : H q = none) : Same (upd F q o) (upd H q o) := fun b u e => by
  by_cases z : b = q
  · subst z; rw [upd_same] at e ⊢; exact e
  · rw [upd_ne z] at e ⊢; exact h _ _ e
theorem Same.upF {F : Hp} {q : Addr} {o : HO} (n : F q = none) : Same F (upd F q o) := fun b u e => by
  rw [upd_ne (ne_of_none e n)]; exact e
section
variable {m : Bool} {ca : Ct} {g : G} {S : Store}
theorem SOk.free (h : SOk ca g S) {q : Addr} (n : g.H q = none) : g.F q = none := h.same.free n
theorem SOk.nop (h : SOk ca g S) {q : Addr} (n : g.H q = none) : ∀ l, g.p l ≠ some q := fun l e => by
  obtain ⟨o, h1⟩ := h.live l q e
  rw [n] at h1; cases h1
/-- new data -/
def G.fz (g : G) (q : Addr) (o : HO) : G := ⟨upd g.F q o, upd g.H q o, g.p⟩
/-- a new object of nobody's -/
def G.nw (g : G) (q : Addr) (o : HO) : G := ⟨g.F, upd g.H q o, g.p⟩
theorem ext_nw (hS : SOk ca g S) {q : Addr} (n : g.H q = none) (o : HO) : Ext m g (g.nw q o) :=
  ⟨Same.refl _, fun b u h f k => ⟨by show upd g.H q o b = _; rw [upd_ne (ne_of_none h n)]; exact h, f, k⟩, PiLe.refl _, fun b h => by
    have h : upd g.H q o b = none := h
    by_cases z : b = q
    · subst z; exact n
    · rw [upd_ne z] at h; exact h, fun _ => ⟨rfl, fun l a u _ h => by show upd g.H q o a = _; rw [upd_ne (ne_of_none h n)]; exact h⟩⟩
theorem sok_nw (hS : SOk ca g S) {q : Addr} (n : g.H q = none) (o : HO) : SOk ca (g.nw q o) S :=
  hS.keep (ext_nw (m := true) hS n o) rfl (fun l a u h1 h2 => by show upd g.H q o a = _; rw [upd_ne (ne_of_none h2 n)]; exact h2) (Same.updL hS.same n) hS.out fun a u w h => by show upd g.H q o a = _; rw [upd_ne (ne_of_none h n)]; exact h
theorem ext_fz (hS : SOk ca g S) {q : Addr} (n : g.H q = none) (o : HO) : Ext m g (g.fz q o) :=
  ⟨Same.upF (hS.free n), fun b u h f k => ⟨by show upd g.H q o b = _; rw [upd_ne (ne_of_none h n)]; exact h, by show upd g.F q o b = _; rw [upd_ne (ne_of_none h n)]; exact f, k⟩, PiLe.refl _, fun b h => by
    have h : upd g.H q o b = none := h
    by_cases z : b = q
    · subst z; exact n
    · rw [upd_ne z] at h; exact h, fun _ => ⟨rfl, fun l a u _ h => by show upd g.H q o a = _; rw [upd_ne (ne_of_none h n)]; exact h⟩⟩
theorem sok_fz (hS : SOk ca g S) {q : Addr} (n : g.H q = none) (o : HO) : SOk ca (g.fz q o) S :=
  hS.keep (ext_fz (m := true) hS n o) rfl (fun l a u h1 h2 => by show upd g.H q o a = _; rw [upd_ne (ne_of_none h2 n)]; exact h2) (Same.updB hS.same n) (fun l a e => by
    show upd g.F q o a = _
    obtain ⟨u, hu⟩ := hS.live l a e
    rw [upd_ne (ne_of_none hu n)]
    exact hS.out l a e) fun a u w h => by show upd g.H q o a = _; rw [upd_ne (ne_of_none h n)]; exact h
/-- what is nobody's becomes data -/
def G.fr (g : G) (q : Addr) (o : HO) : G := ⟨upd g.F q o, g.H, g.p⟩
theorem ext_fr {g0 : G} (e : Ext m g0 g) {q : Addr} {o : HO} (n : g0.H q = none) (hf : g.F q = none) : Ext m g0 (g.fr q o) :=
  ⟨e.same.trans (Same.upF hf), fun b u h f k => by
    obtain ⟨h1, f1, k1⟩ := e.stay b u h f k
    refine ⟨h1, ?_, k1⟩
    show upd g.F q o b = _
    rw [upd_ne (ne_of_none h n)]
    exact f1, e.obs, e.dom, e.pure⟩
theorem sok_fr (hS : SOk ca g S) {q : Addr} {o : HO} (hq : g.H q = some o) (hf : g.F q = none) (hp : ∀ l, g.p l ≠ some q) : SOk ca (g.fr q o) S := by
  have ob : PiLe g.p (g.fr q o).p := PiLe.refl _
  have sm : Same g.F (g.fr q o).F := Same.upF hf
  refine ⟨fun b u e => ?_, hS.inj, fun l a e => ?_, hS.live, fun n o' h => ?_, hS.sc, hS.lt, hS.lf⟩
  · have e : upd g.F q o b = some u := e
    by_cases z : b = q
    · subst z; rw [upd_same] at e; cases e; exact hq
    · rw [upd_ne z] at e; exact hS.same _ _ e
  · show upd g.F q o a = none
    rw [upd_ne (fun z => hp l (by rw [← z]; exact e))]
    exact hS.out l a e
  · obtain ⟨a, dx, fs, h1, h2, h3⟩ := hS.obs n o' h
    refine ⟨a, dx, fs, h1, h2, ?_⟩
    clear h1 h2 h
    generalize o'.fs = ws at h3
    induction h3 with
    | nil => exact .nil
    | @cons f v w vs ws h t ih =>
      refine .cons ?_ ih
      cases w with
      | f d => exact Rp.mono sm ob h
      | o xs => obtain ⟨l, vs, h1, h2, h3, h4⟩ := h; exact ⟨l, vs, h1, h2, h3, RpA.mono sm ob h4⟩
      | k xs => obtain ⟨l, vs, h1, h2, h3, h4⟩ := h; exact ⟨l, vs, h1, h2, h3, RpK.mono sm ob h4⟩
theorem rp_lst {q : Addr} {vs : List V} {ds : List D} (hn : g.F q = none) (r : RpA g.F g.p vs ds) : Rp (upd g.F q (.lst vs)) g.p (.ref q) (.lst ds) :=
  .lst upd_same (RpA.mono (Same.upF hn) (PiLe.refl _) r)
theorem rp_tup {q : Addr} {vs : List V} {ds : List D} (hn : g.F q = none) (r : RpA g.F g.p vs ds) : Rp (upd g.F q (.tup vs)) g.p (.ref q) (.tup ds) :=
  .tup upd_same (RpA.mono (Same.upF hn) (PiLe.refl _) r)
theorem rp_dct {q : Addr} {vs : List (Key × V)} {ds : List (Key × D)} (hn : g.F q = none) (r : RpK g.F g.p vs ds) : Rp (upd g.F q (.dK vs)) g.p (.ref q) (.dct ds) :=
  .dct upd_same (RpK.mono (Same.upF hn) (PiLe.refl _) r)
end

/-! ### sequencing -/
section
variable {m : Bool} {ca : Ct} {W : WX} {α β : Type}
theorem seqE {c : M α} {k : α → M D} {S : Store} {g : G} {σ : L2.St} {Q : VK} (h : (M.bind c k S).sat (okE m ca g Q) (exE m ca W g σ)) :
    (c S).sat (fun a S' => ∀ g', Ext m g g' → (k a S').sat (okE m ca g' Q) (exE m ca W g' σ)) (exE m ca W g σ) :=
  sat_mono (sat_bind h) (fun a S' h g' e => sat_mono h (fun d S2 q => q.mono e) fun c S2 q => q.mono e) fun _ _ q => q
theorem seqO {c : M α} {k : α → M (List D)} {S : Store} {g : G} {σ : L2.St} {Q : VK} (h : (M.bind c k S).sat (okO m ca g Q) (exE m ca W g σ)) :
    (c S).sat (fun a S' => ∀ g', Ext m g g' → (k a S').sat (okO m ca g' Q) (exE m ca W g' σ)) (exE m ca W g σ) :=
  sat_mono (sat_bind h) (fun a S' h g' e => sat_mono h (fun d S2 q => q.mono e) fun c S2 q => q.mono e) fun _ _ q => q
theorem seqK {c : M α} {k : α → M (List (Key × D))} {S : Store} {g : G} {σ : L2.St} {Q : VK} (h : (M.bind c k S).sat (okK m ca g Q) (exE m ca W g σ)) :
    (c S).sat (fun a S' => ∀ g', Ext m g g' → (k a S').sat (okK m ca g' Q) (exE m ca W g' σ)) (exE m ca W g σ) :=
  sat_mono (sat_bind h) (fun a S' h g' e => sat_mono h (fun d S2 q => q.mono e) fun c S2 q => q.mono e) fun _ _ q => q
theorem seqT {c : M α} {k : α → M Bool} {S : Store} {g : G} {σ : L2.St} {Q : Bool → Hp → Prop} (h : (M.bind c k S).sat (okT m ca g Q) (exE m ca W g σ)) :
    (c S).sat (fun a S' => ∀ g', Ext m g g' → (k a S').sat (okT m ca g' Q) (exE m ca W g' σ)) (exE m ca W g σ) :=
  sat_mono (sat_bind h) (fun a S' h g' e => sat_mono h (fun d S2 q => q.mono e) fun c S2 q => q.mono e) fun _ _ q => q
theorem seqA {c : M α} {k : α → M (List D)} {S : Store} {g : G} {σ : L2.St} {Q : List V → Hp → Prop} (h : (M.bind c k S).sat (okA m ca g Q) (exE m ca W g σ)) :
    (c S).sat (fun a S' => ∀ g', Ext m g g' → (k a S').sat (okA m ca g' Q) (exE m ca W g' σ)) (exE m ca W g σ) :=
  sat_mono (sat_bind h) (fun a S' h g' e => sat_mono h (fun d S2 q => q.mono e) fun c S2 q => q.mono e) fun _ _ q => q
theorem seqB {c : M α} {k : α → M D} {S : Store} {g : G} {σ : L2.St} {Q : VK} (h : (M.bind c k S).sat (okB m ca g Q) (exE m ca W g σ)) :
    (c S).sat (fun a S' => ∀ g', Ext m g g' → (k a S').sat (okB m ca g' Q) (exE m ca W g' σ)) (exE m ca W g σ) :=
  sat_mono (sat_bind h) (fun a S' h g' e => sat_mono h (fun d S2 q g2 v e2 s r => q g2 v (e.trans e2) s r) fun c S2 q => q.mono e) fun _ _ q => q
end
def M.lift {α : Type} (o : Option α) : M α := fun S => match o with
  | some a => .ok a S
  | none => .bad
theorem sat_lift {α : Type} {o : Option α} {S : Store} {P : α → Store → Prop} {E : Str → Store → Prop} (h : (M.lift o S).sat P E) : ∃ a, o = some a ∧ P a S := by
  cases o with
  | none => exact h.elim
  | some a => exact ⟨a, rfl, h⟩

/-! ### names, constants -/
def eVar (i : Nat) : En → M D := fun env => match env[i]? with
  | some (.f d) => M.ret d
  | _ => M.bad
def eC (d : D) : En → M D := fun _ => M.ret d
section
variable {m : Bool} {X : Cx} {W : WX} {ca : Ct}
theorem eVar_get {i : Nat} {env : En} {S : Store} {P : D → Store → Prop} {E : Str → Store → Prop} (h : (eVar i env S).sat P E) : ∃ d, env[i]? = some (.f d) ∧ P d S := by
  unfold eVar at h
  cases e : env[i]? with
  | none => rw [e] at h; exact h.elim
  | some w =>
    rw [e] at h
    cases w with
    | f d => exact ⟨d, rfl, h⟩
    | u => exact h.elim
    | o xs => exact h.elim
    | k xs => exact h.elim
theorem de_var (i : Nat) {x : Str} {pos : Pos} (hN : X.N[i]? = some x := by rfl) (hv : Vis X.env.scope x := by first | exact Or.inl rfl | exact Or.inr (Or.inl rfl) | exact Or.inr (Or.inr rfl)) (hd : (x == ("__debug__" : Str)) = false := by decide)
    (hcd : (x == ("__classdict__" : Str)) = false := by decide) : DE m X W ca (.Name x pos) (eVar i) :=
  ⟨_, pe_var hN hv hd hcd, fun H0 g S σ env hS hE Q h => by
    obtain ⟨d, e, h⟩ := eVar_get h
    obtain ⟨v, h1, h2⟩ := hE.var e
    exact ⟨v, h1, h g v (Ext.refl g) hS h2⟩⟩
/-- a name of any kind, read for now -/
def eVarB (i : Nat) : En → M D := fun env => match env[i]? with
  | some (.f d) => M.ret d
  | some (.o xs) => M.ret (.lst xs)
  | some (.k xs) => M.ret (.dct xs)
  | _ => M.bad
theorem db_var (i : Nat) {x : Str} {pos : Pos} (hN : X.N[i]? = some x := by rfl) (hv : Vis X.env.scope x := by first | exact Or.inl rfl | exact Or.inr (Or.inl rfl) | exact Or.inr (Or.inr rfl)) (hd : (x == ("__debug__" : Str)) = false := by decide)
    (hcd : (x == ("__classdict__" : Str)) = false := by decide) : DB m X W ca (.Name x pos) (eVarB i) :=
  ⟨_, pe_var hN hv hd hcd, fun H0 g S σ env hS hE Q h => by
    unfold eVarB at h
    cases e : env[i]? with
    | none => rw [e] at h; exact h.elim
    | some w =>
      rw [e] at h
      obtain ⟨v, h1, h2⟩ := hE.get e
      cases w with
      | u => exact h.elim
      | f d =>
        obtain ⟨w, rfl, r⟩ := h2
        exact ⟨w, h1, (show okB m ca g Q d S from h) g w (Ext.refl g) hS (.inl r)⟩
      | o xs =>
        obtain ⟨q, vs, rfl, h3, h4, h5⟩ := h2
        exact ⟨.ref q, h1, (show okB m ca g Q (.lst xs) S from h) g _ (Ext.refl g) hS (.inr (.inl ⟨q, vs, xs, rfl, rfl, h3, ⟨h5.out, .inl h5.nop⟩, h4⟩))⟩
      | k xs =>
        obtain ⟨q, vs, rfl, h3, h4, h5⟩ := h2
        exact ⟨.ref q, h1, (show okB m ca g Q (.dct xs) S from h) g _ (Ext.refl g) hS (.inr (.inr ⟨q, vs, xs, rfl, rfl, h3, ⟨h5.out, .inl h5.nop⟩, h4⟩))⟩⟩
theorem de_int {i j pos} : DE m X W ca (.Constant (.int i) j pos) (eC (.int i)) := ⟨_, pe_int, fun H0 g S σ env hS hE Q h => h g _ (Ext.refl g) hS (.int i)⟩
theorem de_bl {i j pos} : DE m X W ca (.Constant (.bool i) j pos) (eC (.bl i)) := ⟨_, pe_bl, fun H0 g S σ env hS hE Q h => h g _ (Ext.refl g) hS (.bl i)⟩
theorem de_non {j pos} : DE m X W ca (.Constant .none j pos) (eC .non) := ⟨_, pe_non, fun H0 g S σ env hS hE Q h => h g _ (Ext.refl g) hS .non⟩
theorem de_str {x j pos} : DE m X W ca (.Constant (.str x) j pos) (eC (.str x)) := ⟨_, pe_str, fun H0 g S σ env hS hE Q h => h g _ (Ext.refl g) hS (.str x)⟩
/-- a constant of the module that is an int -/
theorem de_glob {x : Str} {i : Int} {t : Tok} {pos : Pos} (hg : Gl X x) (hm : X.mg x = some (.int i t)) (hd : (x == ("__debug__" : Str)) = false := by decide) : DE m X W ca (.Name x pos) (eC (.int i)) :=
  ⟨_, pe_glob (v := .int i) hg hm ⟨t, rfl⟩ hd, fun H0 g S σ env hS hE Q h => h g _ (Ext.refl g) hS (.int i)⟩
/-- a new list becomes data -/
theorem de_own {e : Expr} {f : En → M (List D)} (h : DO m X W ca e f) : DE m X W ca e (eO f) := by
  obtain ⟨t, p, k⟩ := h
  refine ⟨t, p, fun H0 g S σ env hS hE Q h => k H0 g S σ env hS hE Q (sat_mono (sat_bind h) (fun xs S' q g' a vs e1 s1 n h1 h2 h3 r => ?_) fun _ _ q => q)⟩
  have q : okE m ca g Q (.lst xs) S' := q
  exact q (g'.fr a (.lst vs)) (.ref a) (ext_fr e1 n h2) (sok_fr s1 h1 h2 h3) (rp_lst h2 r)
theorem de_ownK {e : Expr} {f : En → M (List (Key × D))} (h : DK m X W ca e f) : DE m X W ca e (fun env => M.bind (f env) fun xs => M.ret (.dct xs)) := by
  obtain ⟨t, p, k⟩ := h
  refine ⟨t, p, fun H0 g S σ env hS hE Q h => k H0 g S σ env hS hE Q (sat_mono (sat_bind h) (fun xs S' q g' a vs e1 s1 n h1 h2 h3 r => ?_) fun _ _ q => q)⟩
  have q : okE m ca g Q (.dct xs) S' := q
  exact q (g'.fr a (.dK vs)) (.ref a) (ext_fr e1 n h2) (sok_fr s1 h1 h2 h3) (rp_dct h2 r)

/-! ### argument lists, displays -/
def aNil : En → M (List D) := fun _ => M.ret []
def aCons (f : En → M D) (r : En → M (List D)) : En → M (List D) := fun env => M.bind (f env) fun d => M.bind (r env) fun ds => M.ret (d :: ds)
theorem da_nil : DA m X W ca [] aNil := ⟨_, pa_nil, fun H0 g S σ env hS hE Q h => h g [] (Ext.refl g) hS .nil⟩
theorem da_cons {e : Expr} {es : List Expr} {f : En → M D} {r : En → M (List D)} (h1 : DE m X W ca e f) (h2 : DA m X W ca es r) (hs : starEach (e :: es) X.env = (false, eval e X.env) :: starEach es X.env := by rfl) : DA m X W ca (e :: es) (aCons f r) := by
  obtain ⟨t, p, k⟩ := h1
  obtain ⟨t2, p2, k2⟩ := h2
  refine ⟨_, pa_cons p p2 hs, fun H0 g S σ env hS hE Q h => ?_⟩
  refine k H0 g S σ env hS hE _ (sat_mono (seqA h) (fun d S1 q g1 v e1 s1 r1 => ?_) fun _ _ q => q)
  refine k2 H0 g1 S1 σ env s1 (hE.ext e1) _ (sat_mono (seqA (q g1 e1)) (fun ds S2 q2 g2 vs e2 s2 r2 => ?_) fun _ _ q => q)
  exact (show okA m ca g2 Q (d :: ds) S2 from q2 g2 e2) g2 _ (Ext.refl g2) s2 (.cons (e2.rp r1) r2)
def lim : Nat := 1000000
theorem lim_line : lim ≤ sizeLine := by rw [sizeLine_eq]; decide
theorem lim_lt {n : Nat} (h : n ≤ lim) : n ≤ sizeLine := Nat.le_trans h lim_line
theorem lim_lt' {n : Nat} (h : n < lim) : n < sizeLine := Nat.lt_of_lt_of_le h lim_line
def eTup (a : En → M (List D)) : En → M D := fun env => M.bind (a env) fun ds => if ds.length ≤ lim then M.ret (.tup ds) else M.bad
def eLst (a : En → M (List D)) : En → M (List D) := fun env => M.bind (a env) fun ds => if ds.length ≤ lim then M.ret ds else M.bad
theorem de_tup {es : List Expr} {x1 : Nat} {pos : Pos} {a : En → M (List D)} (h : DA m X W ca es a) : DE m X W ca (.Tuple es x1 pos) (eTup a) := by
  obtain ⟨t, p, k⟩ := h
  refine ⟨_, pe_tup p, fun H0 g S σ env hS hE Q h => k H0 g S σ env hS hE _ (sat_mono (seqE h) (fun ds S1 q g1 vs e1 s1 r1 => ?_) fun _ _ q => q)⟩
  have q := q g1 e1
  by_cases hl : ds.length ≤ lim
  · rw [if_pos hl] at q
    refine ⟨by rw [r1.length]; exact lim_lt hl, fun a ha => ?_⟩
    exact (show okE m ca g1 Q (.tup ds) S1 from q) (g1.fz a (.tup vs)) _ (ext_fz s1 ha _) (sok_fz s1 ha _) (rp_tup (s1.free ha) r1)
  · rw [if_neg hl] at q; exact q.elim
theorem do_lst {es : List Expr} {pos : Pos} {a : En → M (List D)} (h : DA m X W ca es a) : DO m X W ca (.List es pos) (eLst a) := by
  obtain ⟨t, p, k⟩ := h
  refine ⟨_, pe_lst p, fun H0 g S σ env hS hE Q h => k H0 g S σ env hS hE _ (sat_mono (seqO h) (fun ds S1 q g1 vs e1 s1 r1 => ?_) fun _ _ q => q)⟩
  have q := q g1 e1
  by_cases hl : ds.length ≤ lim
  · rw [if_pos hl] at q
    refine ⟨by rw [r1.length]; exact lim_lt hl, fun a ha => ?_⟩
    exact (show okO m ca g1 Q ds S1 from q) (g1.nw a (.lst vs)) a vs (ext_nw s1 ha _) (sok_nw s1 ha _) ha upd_same (s1.free ha) (s1.nop ha) r1
  · rw [if_neg hl] at q; exact q.elim
end
end Dn

namespace Dn
open PySem L2

/-! ### operators of two places -/
/-- op tells what r gives -/
def RelOp (r : R2) (op : D → D → Option D) : Prop := ∀ (m : Bool) (ca : Ct) (g : G) (S : Store) (x y : V) (dx dy z : D) (Q : VK), SOk ca g S → Rb m g x dx → Rb m g y dy → op dx dy = some z → okE m ca g Q z S → r x y g.H Q
def eBin (op : D → D → Option D) (a b : En → M D) : En → M D := fun env => M.bind (a env) fun x => M.bind (b env) fun y => M.lift (op x y)
def tBin (op : D → D → Option Bool) (a b : En → M D) : En → M Bool := fun env => M.bind (a env) fun x => M.bind (b env) fun y => M.lift (op x y)
def obl (o : D → D → Option Bool) : D → D → Option D := fun x y => (o x y).map D.bl
section
variable {m : Bool} {X : Cx} {W : WX} {ca : Ct} {a b e : Expr} {fa fb : En → M D} {pos : Pos}
theorem run2 {ta tb : TE} {r : R2} {op : D → D → Option D} (ho : RelOp r op)
    (ka : ∀ H0 g S σ env, SOk ca g S → EnvOk H0 g σ env → ∀ Q : VK, (fa env S).sat (okB m ca g Q) (exE m ca W g σ) → ta σ g.H Q)
    (kb : ∀ H0 g S σ env, SOk ca g S → EnvOk H0 g σ env → ∀ Q : VK, (fb env S).sat (okB m ca g Q) (exE m ca W g σ) → tb σ g.H Q) :
    ∀ H0 g S σ env, SOk ca g S → EnvOk H0 g σ env → ∀ Q : VK, (eBin op fa fb env S).sat (okE m ca g Q) (exE m ca W g σ) → tOp r ta tb σ g.H Q := fun H0 g S σ env hS hE Q h => by
  refine ka H0 g S σ env hS hE _ (sat_mono (seqE h) (fun x S1 q g1 v e1 s1 r1 => ?_) fun _ _ q => q)
  refine kb H0 g1 S1 σ env s1 (hE.ext e1) _ (sat_mono (seqE (q g1 e1)) (fun y S2 q2 g2 u e2 s2 r2 => ?_) fun _ _ q => q)
  obtain ⟨z, hz, k⟩ := sat_lift (q2 g2 e2)
  exact ho m ca g2 S2 v u x y z Q s2 (r1.ext s2 e2) r2 hz k
theorem de_bin {o : Operator} {r : R2} {op : D → D → Option D} (hr : OpR X (binaryOp o) r) (ho : RelOp r op) (ha : DB m X W ca a fa) (hb : DB m X W ca b fb) : DE m X W ca (.BinOp a o b pos) (eBin op fa fb) := by
  obtain ⟨ta, pa, ka⟩ := ha
  obtain ⟨tb, pb, kb⟩ := hb
  exact ⟨_, pe_op hr pa pb, run2 ho ka kb⟩
theorem de_cmp {o : CmpOp} {r : R2} {op : D → D → Option Bool} (hr : OpR X (compareOp o) r) (ho : RelOp r (obl op)) (ha : DB m X W ca a fa) (hb : DB m X W ca b fb) (hm : behindInMarks o b = false) : DE m X W ca (.Compare a [o] [b] pos) (eBin (obl op) fa fb) := by
  obtain ⟨ta, pa, ka⟩ := ha
  obtain ⟨tb, pb, kb⟩ := hb
  exact ⟨_, pe_cmpR hr pa pb hm, run2 ho ka kb⟩
theorem dt_cmp {o : CmpOp} {r : R2} {op : D → D → Option Bool} (hr : OpR X (compareOp o) r) (ho : RelOp r (obl op)) (ha : DB m X W ca a fa) (hb : DB m X W ca b fb) (hm : behindInMarks o b = false) : DT m X W ca (.Compare a [o] [b] pos) (tBin op fa fb) := by
  obtain ⟨ta, pa, ka⟩ := ha
  obtain ⟨tb, pb, kb⟩ := hb
  refine ⟨_, pt_cmpR hr pa pb hm, fun H0 g S σ env hS hE Q h => ?_⟩
  refine run2 ho ka kb H0 g S σ env hS hE (fun x H' => ∃ k, x = .bl k ∧ Q k H') ?_
  unfold tBin at h
  unfold eBin
  cases e1 : fa env S with
  | bad => unfold M.bind at h; rw [e1] at h; exact h.elim
  | exc c S' => unfold M.bind at h ⊢; rw [e1] at h ⊢; exact h
  | ok x S1 =>
    unfold M.bind at h ⊢
    rw [e1] at h ⊢
    dsimp only at h ⊢
    cases e2 : fb env S1 with
    | bad => rw [e2] at h; exact h.elim
    | exc c S' => rw [e2] at h; exact h
    | ok y S2 =>
      rw [e2] at h
      dsimp only at h ⊢
      obtain ⟨k, hk, q⟩ := sat_lift h
      have q : okT m ca g Q k S2 := q
      unfold M.lift obl
      rw [hk]
      show okE m ca g (fun x H' => ∃ k, x = V.bl k ∧ Q k H') (.bl k) S2
      intro g' v e s r
      cases r
      exact ⟨k, rfl, q g' e s⟩

/-! ### ints, texts, lists -/
theorem Rb.int {m : Bool} {g : G} {x : V} {i : Int} (r : Rb m g x (.int i)) : x = .int i := by
  rcases r with r | ⟨_, _, _, _, h, _⟩ | ⟨_, _, _, _, h, _⟩
  · cases r; rfl
  · cases h
  · cases h
theorem Rb.str {m : Bool} {g : G} {x : V} {i : Str} (r : Rb m g x (.str i)) : x = .str i := by
  rcases r with r | ⟨_, _, _, _, h, _⟩ | ⟨_, _, _, _, h, _⟩
  · cases r; rfl
  · cases h
  · cases h
theorem Rb.bl {m : Bool} {g : G} {x : V} {i : Bool} (r : Rb m g x (.bl i)) : x = .bl i := by
  rcases r with r | ⟨_, _, _, _, h, _⟩ | ⟨_, _, _, _, h, _⟩
  · cases r; rfl
  · cases h
  · cases h
theorem Rb.non {m : Bool} {g : G} {x : V} (r : Rb m g x .non) : x = .non := by
  rcases r with r | ⟨_, _, _, _, h, _⟩ | ⟨_, _, _, _, h, _⟩
  · cases r; rfl
  · cases h
  · cases h
theorem Rb.lst {m : Bool} {ca : Ct} {S : Store} {g : G} (hS : SOk ca g S) {x : V} {ds : List D} (r : Rb m g x (.lst ds)) : ∃ a vs, x = .ref a ∧ g.H a = some (.lst vs) ∧ RpA g.F g.p vs ds := by
  rcases r with r | ⟨q, vs, xs, h1, h2, h3, h4, h6⟩ | ⟨_, _, _, _, h, _⟩
  · cases r with
    | lst h t => exact ⟨_, _, rfl, hS.same _ _ h, t⟩
  · cases h2; exact ⟨q, vs, h1, h3, h6⟩
  · cases h
theorem Rb.tup {m : Bool} {ca : Ct} {S : Store} {g : G} (hS : SOk ca g S) {x : V} {ds : List D} (r : Rb m g x (.tup ds)) : ∃ a vs, x = .ref a ∧ g.H a = some (.tup vs) ∧ RpA g.F g.p vs ds := by
  rcases r with r | ⟨_, _, _, _, h, _⟩ | ⟨_, _, _, _, h, _⟩
  · cases r with
    | tup h t => exact ⟨_, _, rfl, hS.same _ _ h, t⟩
  · cases h
  · cases h
/-- as read off the heap -/
theorem Rb.h {m : Bool} {ca : Ct} {S : Store} {g : G} (hS : SOk ca g S) {x : V} {d : D} (r : Rb m g x d) : Rp g.H g.p x d := by
  rcases r with r | ⟨q, vs, xs, rfl, rfl, h3, h4, h6⟩ | ⟨q, vs, xs, rfl, rfl, h3, h4, h6⟩
  · exact Rp.mono hS.same (PiLe.refl _) r
  · exact .lst h3 (RpA.mono hS.same (PiLe.refl _) h6)
  · exact .dct h3 (RpK.mono hS.same (PiLe.refl _) h6)
theorem relI0 {g : Int → Int → Int} {op : D → D → Option D} (h : ∀ x y z, op x y = some z → ∃ i j, x = .int i ∧ y = .int j ∧ z = .int (g i j)) : RelOp (rI0 fun i j => .int (g i j)) op := fun m ca g0 S x y dx dy z Q hS r1 r2 e k => by
  obtain ⟨i, j, rfl, rfl, rfl⟩ := h _ _ _ e
  cases r1.int; cases r2.int
  exact ⟨i, j, rfl, rfl, k g0 _ (Ext.refl _) hS (.int _)⟩
theorem relI {C : Int → Int → Prop} {g : Int → Int → Int} {op : D → D → Option D} (h : ∀ x y z, op x y = some z → ∃ i j, x = .int i ∧ y = .int j ∧ C i j ∧ z = .int (g i j)) : RelOp (rI C fun i j => .int (g i j)) op := fun m ca g0 S x y dx dy z Q hS r1 r2 e k => by
  obtain ⟨i, j, rfl, rfl, hc, rfl⟩ := h _ _ _ e
  cases r1.int; cases r2.int
  exact ⟨i, j, rfl, rfl, hc, k g0 _ (Ext.refl _) hS (.int _)⟩
theorem relB {g : Int → Int → Bool} {op : D → D → Option Bool} (h : ∀ x y z, op x y = some z → ∃ i j, x = .int i ∧ y = .int j ∧ z = g i j) : RelOp (rI0 fun i j => .bl (g i j)) (obl op) := fun m ca g0 S x y dx dy z Q hS r1 r2 e k => by
  unfold obl at e
  cases e2 : op dx dy with
  | none => rw [e2] at e; cases e
  | some w =>
    rw [e2] at e; cases e
    obtain ⟨i, j, rfl, rfl, rfl⟩ := h _ _ _ e2
    cases r1.int; cases r2.int
    exact ⟨i, j, rfl, rfl, k g0 _ (Ext.refl _) hS (.bl _)⟩
def subD : D → D → Option D
  | .int i, .int j => some (.int (i - j))
  | _, _ => none
def mulD : D → D → Option D
  | .int i, .int j => if (-(2 ^ 64) < i ∧ i < 2 ^ 64) ∨ (-(2 ^ 64) < j ∧ j < 2 ^ 64) then some (.int (i * j)) else none
  | _, _ => none
def divD : D → D → Option D
  | .int i, .int j => if 0 < j ∧ j < 1073741824 then some (.int (i / j)) else none
  | _, _ => none
def modD : D → D → Option D
  | .int i, .int j => if 0 < j then some (.int (i % j)) else none
  | _, _ => none
def powD : D → D → Option D
  | .int i, .int j => if 0 ≤ j ∧ j ≤ 1000000 ∧ i.natAbs < 2 ^ 64 then some (.int (i ^ j.toNat)) else none
  | _, _ => none
def addD : D → D → Option D
  | .int i, .int j => some (.int (i + j))
  | .str a, .str b => if a.length + b.length ≤ lim then some (.str (a ++ b)) else none
  | .lst xs, .lst ys => if xs.length + ys.length ≤ lim then some (.lst (xs ++ ys)) else none
  | .tup xs, .tup ys => if xs ≠ [] ∧ ys ≠ [] ∧ xs.length + ys.length ≤ lim then some (.tup (xs ++ ys)) else none
  | _, _ => none
def ltD : D → D → Option Bool
  | .int i, .int j => some (decide (i < j))
  | _, _ => none
def leD : D → D → Option Bool
  | .int i, .int j => some (decide (i ≤ j))
  | _, _ => none
def gtD : D → D → Option Bool
  | .int i, .int j => some (decide (j < i))
  | _, _ => none
def geD : D → D → Option Bool
  | .int i, .int j => some (decide (j ≤ i))
  | _, _ => none
theorem subD_ok {x y z : D} (h : subD x y = some z) : ∃ i j, x = .int i ∧ y = .int j ∧ z = .int (i - j) := by
  unfold subD at h; split at h
  · cases h; exact ⟨_, _, rfl, rfl, rfl⟩
  · cases h
theorem de_sub (ha : DB m X W ca a fa) (hb : DB m X W ca b fb) : DE m X W ca (.BinOp a .Sub b pos) (eBin subD fa fb) := de_bin op_sub (relI0 fun _ _ _ => subD_ok) ha hb
theorem de_mul (ha : DB m X W ca a fa) (hb : DB m X W ca b fb) : DE m X W ca (.BinOp a .Mult b pos) (eBin mulD fa fb) := de_bin op_mul (relI fun x y z h => by
  unfold mulD at h; split at h
  · split at h
    · rename_i c; cases h; exact ⟨_, _, rfl, rfl, c, rfl⟩
    · cases h
  · cases h) ha hb
theorem de_div (ha : DB m X W ca a fa) (hb : DB m X W ca b fb) : DE m X W ca (.BinOp a .FloorDiv b pos) (eBin divD fa fb) := de_bin op_fdiv (relI fun x y z h => by
  unfold divD at h; split at h
  · split at h
    · rename_i c; cases h; exact ⟨_, _, rfl, rfl, c, rfl⟩
    · cases h
  · cases h) ha hb
theorem de_mod (ha : DB m X W ca a fa) (hb : DB m X W ca b fb) : DE m X W ca (.BinOp a .Mod b pos) (eBin modD fa fb) := de_bin op_mod (relI fun x y z h => by
  unfold modD at h; split at h
  · split at h
    · rename_i c; cases h; exact ⟨_, _, rfl, rfl, c, rfl⟩
    · cases h
  · cases h) ha hb
theorem de_pow (ha : DB m X W ca a fa) (hb : DB m X W ca b fb) : DE m X W ca (.BinOp a .Pow b pos) (eBin powD fa fb) := de_bin op_pow (relI fun x y z h => by
  unfold powD at h; split at h
  · split at h
    · rename_i c; cases h; exact ⟨_, _, rfl, rfl, c, rfl⟩
    · cases h
  · cases h) ha hb
theorem rel_add {K : PySem.W.Frag} : RelOp (fun x y H Q => rI0 (fun i j => .int (i + j)) x y H Q ∨ (∃ i j, x = .str i ∧ y = .str j ∧ i.length + j.length ≤ sizeLine ∧ Q (.str (i ++ j)) H) ∨ rCat x y H Q ∨ rCatT K x y H Q) addD :=
  fun m ca g S x y dx dy z Q hS r1 r2 e k => by
    unfold addD at e
    split at e
    · cases e; cases r1.int; cases r2.int
      exact .inl ⟨_, _, rfl, rfl, k g _ (Ext.refl _) hS (.int _)⟩
    · split at e
      · rename_i c; cases e; cases r1.str; cases r2.str
        exact .inr (.inl ⟨_, _, rfl, rfl, lim_lt c, k g _ (Ext.refl _) hS (.str _)⟩)
      · cases e
    · split at e
      · rename_i c
        cases e
        obtain ⟨p, vs, rfl, h1, q1⟩ := r1.lst hS
        obtain ⟨p', ws, rfl, h2, q2⟩ := r2.lst hS
        refine .inr (.inr (.inl ⟨p, p', vs, ws, rfl, rfl, h1, h2, by rw [q1.length, q2.length]; exact lim_lt c, fun l hl => ?_⟩))
        exact k (g.fz l _) _ (ext_fz hS hl _) (sok_fz hS hl _) (rp_lst (hS.free hl) (q1.append q2))
      · cases e
    · split at e
      · rename_i c
        cases e
        obtain ⟨p, vs, rfl, h1, q1⟩ := r1.tup hS
        obtain ⟨p', ws, rfl, h2, q2⟩ := r2.tup hS
        have l1 := q1.length
        have l2 := q2.length
        have c1 : vs ≠ [] := fun z => c.1 (List.length_eq_zero_iff.mp (by rw [← l1, z]; rfl))
        have c2 : ws ≠ [] := fun z => c.2.1 (List.length_eq_zero_iff.mp (by rw [← l2, z]; rfl))
        refine .inr (.inr (.inr ⟨p, p', vs, ws, rfl, rfl, SqT.of h1, SqT.of h2, c1, by rw [l1, l2]; exact lim_lt c.2.2, fun z => absurd z c2, fun _ l hl => ?_⟩))
        exact k (g.fz l _) _ (ext_fz hS hl _) (sok_fz hS hl _) (rp_tup (hS.free hl) (q1.append q2))
      · cases e
    · cases e
theorem de_add (ha : DB m X W ca a fa) (hb : DB m X W ca b fb) : DE m X W ca (.BinOp a .Add b pos) (eBin addD fa fb) :=
  de_bin (op_add.or (op_add_str.or (op_cat.or op_catT))) rel_add ha hb
/-- xs + ys, a new list of nobody's -/
def oCat (a b : En → M D) : En → M (List D) := fun env => M.bind (a env) fun x => M.bind (b env) fun y => match x, y with
  | .lst xs, .lst ys => if xs.length + ys.length ≤ lim then M.ret (xs ++ ys) else M.bad
  | _, _ => M.bad
theorem do_cat (ha : DB m X W ca a fa) (hb : DB m X W ca b fb) : DO m X W ca (.BinOp a .Add b pos) (oCat fa fb) := by
  obtain ⟨ta, pa, ka⟩ := ha
  obtain ⟨tb, pb, kb⟩ := hb
  refine ⟨_, pe_op op_cat pa pb, fun H0 g S σ env hS hE Q h => ?_⟩
  refine ka H0 g S σ env hS hE _ (sat_mono (seqO h) (fun x S1 q g1 v e1 s1 r1 => ?_) fun _ _ q => q)
  refine kb H0 g1 S1 σ env s1 (hE.ext e1) _ (sat_mono (seqO (q g1 e1)) (fun y S2 q2 g2 u e2 s2 r2 => ?_) fun _ _ q => q)
  have q2 := q2 g2 e2
  have r1 := r1.ext s2 e2
  cases x with
  | lst xs =>
    cases y with
    | lst ys =>
      dsimp only at q2
      by_cases c : xs.length + ys.length ≤ lim
      · rw [if_pos c] at q2
        have q2 : okO m ca g2 Q (xs ++ ys) S2 := q2
        obtain ⟨p, vs, rfl, h1, q1⟩ := r1.lst s2
        obtain ⟨p', ws, rfl, h2, q3⟩ := r2.lst s2
        refine ⟨p, p', vs, ws, rfl, rfl, h1, h2, by rw [q1.length, q3.length]; exact lim_lt c, fun l hl => ?_⟩
        exact q2 (g2.nw l _) l _ (ext_nw s2 hl _) (sok_nw s2 hl _) hl upd_same (s2.free hl) (s2.nop hl) (q1.append q3)
      · rw [if_neg c] at q2; exact q2.elim
    | _ => exact q2.elim
  | _ => exact q2.elim
theorem de_lt (ha : DB m X W ca a fa) (hb : DB m X W ca b fb) : DE m X W ca (.Compare a [.Lt] [b] pos) (eBin (obl ltD) fa fb) := de_cmp op_lt (relB fun x y z h => by
  unfold ltD at h; split at h
  · cases h; exact ⟨_, _, rfl, rfl, rfl⟩
  · cases h) ha hb (nomark _)
theorem dt_lt (ha : DB m X W ca a fa) (hb : DB m X W ca b fb) : DT m X W ca (.Compare a [.Lt] [b] pos) (tBin ltD fa fb) := dt_cmp op_lt (relB fun x y z h => by
  unfold ltD at h; split at h
  · cases h; exact ⟨_, _, rfl, rfl, rfl⟩
  · cases h) ha hb (nomark _)
theorem de_le (ha : DB m X W ca a fa) (hb : DB m X W ca b fb) : DE m X W ca (.Compare a [.LtE] [b] pos) (eBin (obl leD) fa fb) := de_cmp op_le (relB fun x y z h => by
  unfold leD at h; split at h
  · cases h; exact ⟨_, _, rfl, rfl, rfl⟩
  · cases h) ha hb (nomark _)
theorem dt_le (ha : DB m X W ca a fa) (hb : DB m X W ca b fb) : DT m X W ca (.Compare a [.LtE] [b] pos) (tBin leD fa fb) := dt_cmp op_le (relB fun x y z h => by
  unfold leD at h; split at h
  · cases h; exact ⟨_, _, rfl, rfl, rfl⟩
  · cases h) ha hb (nomark _)
theorem de_gt (ha : DB m X W ca a fa) (hb : DB m X W ca b fb) : DE m X W ca (.Compare a [.Gt] [b] pos) (eBin (obl gtD) fa fb) := de_cmp op_gt (relB fun x y z h => by
  unfold gtD at h; split at h
  · cases h; exact ⟨_, _, rfl, rfl, rfl⟩
  · cases h) ha hb (nomark _)
theorem dt_gt (ha : DB m X W ca a fa) (hb : DB m X W ca b fb) : DT m X W ca (.Compare a [.Gt] [b] pos) (tBin gtD fa fb) := dt_cmp op_gt (relB fun x y z h => by
  unfold gtD at h; split at h
  · cases h; exact ⟨_, _, rfl, rfl, rfl⟩
  · cases h) ha hb (nomark _)
theorem de_ge (ha : DB m X W ca a fa) (hb : DB m X W ca b fb) : DE m X W ca (.Compare a [.GtE] [b] pos) (eBin (obl geD) fa fb) := de_cmp op_ge (relB fun x y z h => by
  unfold geD at h; split at h
  · cases h; exact ⟨_, _, rfl, rfl, rfl⟩
  · cases h) ha hb (nomark _)
theorem dt_ge (ha : DB m X W ca a fa) (hb : DB m X W ca b fb) : DT m X W ca (.Compare a [.GtE] [b] pos) (tBin geD fa fb) := dt_cmp op_ge (relB fun x y z h => by
  unfold geD at h; split at h
  · cases h; exact ⟨_, _, rfl, rfl, rfl⟩
  · cases h) ha hb (nomark _)

/-! ### is None -/
def isN : D → Bool
  | .non => true
  | _ => false
theorem isN_v {F : Hp} {p : Pi} {x : V} {d : D} (r : Rp F p x d) : decide (x = .non) = isN d := by
  cases r <;> first | rfl | (exact decide_eq_false (fun z => nomatch z))
def isD : D → D → Option Bool
  | x, .non => some (isN x)
  | _, _ => none
def isnD : D → D → Option Bool
  | x, .non => some (!isN x)
  | _, _ => none
theorem rel_is : RelOp (fun x y H Q => y = .non ∧ Q (.bl (decide (x = .non))) H) (obl isD) := fun m ca g S x y dx dy z Q hS r1 r2 e k => by
  cases dy <;> first | (cases r2.non; cases e; exact ⟨rfl, by rw [isN_v (r1.h hS)]; exact k g _ (Ext.refl _) hS (.bl _)⟩) | cases e
theorem rel_isn : RelOp (fun x y H Q => y = .non ∧ Q (.bl (!decide (x = .non))) H) (obl isnD) := fun m ca g S x y dx dy z Q hS r1 r2 e k => by
  cases dy <;> first | (cases r2.non; cases e; exact ⟨rfl, by rw [isN_v (r1.h hS)]; exact k g _ (Ext.refl _) hS (.bl _)⟩) | cases e
theorem de_is (ha : DB m X W ca a fa) (hb : DB m X W ca b fb) : DE m X W ca (.Compare a [.Is] [b] pos) (eBin (obl isD) fa fb) := de_cmp op_isN rel_is ha hb (nomark _)
theorem dt_is (ha : DB m X W ca a fa) (hb : DB m X W ca b fb) : DT m X W ca (.Compare a [.Is] [b] pos) (tBin isD fa fb) := dt_cmp op_isN rel_is ha hb (nomark _)
theorem de_isn (ha : DB m X W ca a fa) (hb : DB m X W ca b fb) : DE m X W ca (.Compare a [.IsNot] [b] pos) (eBin (obl isnD) fa fb) := de_cmp op_notN rel_isn ha hb (nomark _)
theorem dt_isn (ha : DB m X W ca a fa) (hb : DB m X W ca b fb) : DT m X W ca (.Compare a [.IsNot] [b] pos) (tBin isnD fa fb) := dt_cmp op_notN rel_isn ha hb (nomark _)
end

/-! ### == -/
mutual
def toPy : D → PyData
  | .non => .none
  | .bl b => .bool b
  | .int i => .int i
  | .str x => .str x
  | .lst xs => .list (toPyA xs)
  | .tup xs => .tuple (toPyA xs)
  | .dct _ => .dict []
  | .scr _ => .dict []
  | .obj _ => .dict []
def toPyA : List D → List PyData
  | [] => []
  | d :: ds => toPy d :: toPyA ds
end
def scalD : D → D → Bool
  | .non, .non => true | .non, .int _ => true | .int _, .non => true | .non, .bl _ => true | .bl _, .non => true | .non, .str _ => true | .str _, .non => true
  | .int _, .int _ => true | .bl _, .bl _ => true | .str _, .str _ => true
  | .int _, .str _ => true | .str _, .int _ => true | .bl _, .str _ => true | .str _, .bl _ => true
  | _, _ => false
def shpD (d : D) : Bool := SeqAt.shaped (toPy d)
def eqD (x y : D) : Option Bool := if scalD x y = true ∨ (shpD x = true ∧ shpD y = true) then some (PyData.eqv (toPy x) (toPy y)) else none
def neD (x y : D) : Option Bool := (eqD x y).map (!·)
section
variable {F H : Hp} {p : Pi} {K : PySem.W.Frag}
theorem ints_dp : ∀ (ns : List Int), DpAll K H (ns.map V.int) (ns.map PyData.int)
  | [] => .nil
  | n :: ns => .cons (.int n) (ints_dp ns)
mutual
theorem dp_of (s : Same F H) : ∀ {v : V} {d : D}, Rp F p v d → (toPy d).canLay0 = true → Dp K H v (toPy d)
  | _, _, .non, _ => .non
  | _, _, .bl b, _ => .bl b
  | _, _, .int b, _ => .int b
  | _, _, .str b, _ => .str b
  | _, _, .lst h t, c => .lst (SqL.of (s _ _ h)) (dpA_of s t (by simpa [toPy, PyData.canLay0] using c))
  | _, _, .tup h t, c => .tup (SqT.of (s _ _ h)) (dpA_of s t (by simpa [toPy, PyData.canLay0] using c))
  | _, _, .dct h t, c => by simp [toPy, PyData.canLay0] at c
  | _, _, .scr h, c => by simp [toPy, PyData.canLay0] at c
  | _, _, .obj h, c => by simp [toPy, PyData.canLay0] at c
theorem dpA_of (s : Same F H) : ∀ {v : List V} {d : List D}, RpA F p v d → PyData.canLayAll0 (toPyA d) = true → DpAll K H v (toPyA d)
  | _, _, .nil, _ => .nil
  | _, _, .cons h t, c => by
    simp only [toPyA, PyData.canLayAll0, Bool.and_eq_true] at c
    exact .cons (dp_of s h c.1) (dpA_of s t c.2)
end
end
theorem scal_eq {F : Hp} {p : Pi} {x y : V} {dx dy : D} (r1 : Rp F p x dx) (r2 : Rp F p y dy) (h : scalD dx dy = true) : scal x y = true ∧ decide (x = y) = PyData.eqv (toPy dx) (toPy dy) := by
  cases r1 <;> cases r2 <;> first
    | (simp [scalD] at h; done)
    | exact ⟨rfl, by simp [toPy, PyData.eqv, Bool.beq_eq_decide_eq]⟩
    | exact ⟨rfl, by simp [toPy, PyData.eqv]; rw [Bool.eq_iff_iff]; simp⟩
theorem rel_eq {K : PySem.W.Frag} : RelOp (fun x y H Q => rEq x y H Q ∨ rEqD K x y H Q) (obl eqD) := fun m ca g S x y dx dy z Q hS r1 r2 e k => by
  unfold obl eqD at e
  split at e
  · rename_i c
    cases e
    have k := k g _ (Ext.refl _) hS (.bl _)
    rcases c with c | ⟨c1, c2⟩
    · obtain ⟨q1, q2⟩ := scal_eq (r1.h hS) (r2.h hS) c
      exact .inl ⟨q1, by rw [q2]; exact k⟩
    · exact .inr ⟨_, _, dp_of (Same.refl _) (r1.h hS) (SeqAt.canLay_of_shaped c1), dp_of (Same.refl _) (r2.h hS) (SeqAt.canLay_of_shaped c2), c1, c2, k⟩
  · cases e
theorem rel_ne {K : PySem.W.Frag} : RelOp (fun x y H Q => rNe x y H Q ∨ rNeD K x y H Q) (obl neD) := fun m ca g S x y dx dy z Q hS r1 r2 e k => by
  unfold obl neD eqD at e
  split at e
  · rename_i c
    cases e
    have k := k g _ (Ext.refl _) hS (.bl _)
    rcases c with c | ⟨c1, c2⟩
    · obtain ⟨q1, q2⟩ := scal_eq (r1.h hS) (r2.h hS) c
      exact .inl ⟨q1, by rw [q2]; exact k⟩
    · exact .inr ⟨_, _, dp_of (Same.refl _) (r1.h hS) (SeqAt.canLay_of_shaped c1), dp_of (Same.refl _) (r2.h hS) (SeqAt.canLay_of_shaped c2), c1, c2, k⟩
  · cases e
section
variable {m : Bool} {X : Cx} {W : WX} {ca : Ct} {a b e : Expr} {fa fb : En → M D} {pos : Pos} {k : Nat}
theorem de_eq (hr : Room k X.A) (ha : DB m X W ca a fa) (hb : DB m X W ca b fb) : DE m X W ca (.Compare a [.Eq] [b] pos) (eBin (obl eqD) fa fb) := de_cmp (op_eq.or (op_eqD hr.units)) rel_eq ha hb (nomark _)
theorem dt_eq (hr : Room k X.A) (ha : DB m X W ca a fa) (hb : DB m X W ca b fb) : DT m X W ca (.Compare a [.Eq] [b] pos) (tBin eqD fa fb) := dt_cmp (op_eq.or (op_eqD hr.units)) rel_eq ha hb (nomark _)
theorem de_ne (hr : Room k X.A) (ha : DB m X W ca a fa) (hb : DB m X W ca b fb) : DE m X W ca (.Compare a [.NotEq] [b] pos) (eBin (obl neD) fa fb) := de_cmp (op_ne.or (op_neD hr.units)) rel_ne ha hb (nomark _)
theorem dt_ne (hr : Room k X.A) (ha : DB m X W ca a fa) (hb : DB m X W ca b fb) : DT m X W ca (.Compare a [.NotEq] [b] pos) (tBin neD fa fb) := dt_cmp (op_ne.or (op_neD hr.units)) rel_ne ha hb (nomark _)
end

/-! ### in -/
def flatD : D → Bool
  | .non => true | .bl _ => true | .int _ => true | .str _ => true
  | _ => false
def eqF : D → D → Bool
  | .non, .non => true
  | .bl a, .bl b => a == b
  | .bl a, .int b => (if a then 1 else 0) == b
  | .int a, .bl b => a == (if b then 1 else 0)
  | .int a, .int b => a == b
  | .str a, .str b => a == b
  | _, _ => false
def inF (x : D) (xs : List D) : Bool := xs.any fun y => eqF y x
def inStr (i j : Str) : Bool := !(Builtin.Str.occurrences j i 0 j.length 1).isEmpty
def inD : D → D → Option Bool
  | .str i, .str j => some (inStr i j)
  | x, .lst ys => if flatD x = true ∧ ys.all flatD = true then some (inF x ys) else none
  | x, .tup ys => if flatD x = true ∧ ys.all flatD = true then some (inF x ys) else none
  | _, _ => none
def ninD (x y : D) : Option Bool := (inD x y).map (!·)
section
variable {F : Hp} {p : Pi}
theorem flat_v {x : V} {d : D} (r : Rp F p x d) (h : flatD d = true) : flatV x = true := by
  cases r <;> first | rfl | (simp [flatD] at h)
theorem flat_vA {xs : List V} {ds : List D} (r : RpA F p xs ds) (h : ds.all flatD = true) : xs.all flatV = true := by
  induction ds generalizing xs with
  | nil => cases r; rfl
  | cons d ds ih =>
    cases r with
    | cons r t =>
      simp only [List.all_cons, Bool.and_eq_true] at h ⊢
      exact ⟨flat_v r h.1, ih t h.2⟩
theorem eqF_v {x y : V} {d e : D} (r : Rp F p x d) (q : Rp F p y e) : flatD d = true → eqV x y = eqF d e := fun h => by
  cases r <;> first | (cases q <;> rfl) | (simp [flatD] at h)
theorem inF_v {x : V} {d : D} {xs : List V} {ds : List D} (r : Rp F p x d) (t : RpA F p xs ds) (h : ds.all flatD = true) : inV x xs = inF d ds := by
  unfold inV inF
  induction ds generalizing xs with
  | nil => cases t; rfl
  | cons e ds ih =>
    cases t with
    | cons q t =>
      simp only [List.all_cons, Bool.and_eq_true] at h
      simp only [List.any_cons, ih t h.2, eqF_v q r h.1]
end
theorem rel_in {K : PySem.W.Frag} : RelOp (fun x y H Q => (∃ i j, x = .str i ∧ y = .str j ∧ Q (.bl (!(Builtin.Str.occurrences j i 0 j.length 1).isEmpty)) H) ∨ rIn K false x y H Q) (obl inD) := fun m ca g S x y dx dy z Q hS r1 r2 e k => by
  unfold obl inD at e
  split at e
  · cases r1.str; cases r2.str; cases e
    exact .inl ⟨_, _, rfl, rfl, k g _ (Ext.refl _) hS (.bl _)⟩
  · split at e
    · rename_i c
      cases e
      obtain ⟨q, vs, rfl, h1, t⟩ := r2.lst hS
      exact .inr ⟨q, vs, rfl, .inl (SqL.of h1), flat_v (r1.h hS) c.1, flat_vA t c.2, by rw [inF_v (r1.h hS) (RpA.mono hS.same (PiLe.refl _) t) c.2]; exact k g _ (Ext.refl _) hS (.bl _)⟩
    · cases e
  · split at e
    · rename_i c
      cases e
      obtain ⟨q, vs, rfl, h1, t⟩ := r2.tup hS
      exact .inr ⟨q, vs, rfl, .inr (SqT.of h1), flat_v (r1.h hS) c.1, flat_vA t c.2, by rw [inF_v (r1.h hS) (RpA.mono hS.same (PiLe.refl _) t) c.2]; exact k g _ (Ext.refl _) hS (.bl _)⟩
    · cases e
  · cases e
theorem rel_nin {K : PySem.W.Frag} : RelOp (fun x y H Q => (∃ i j, x = .str i ∧ y = .str j ∧ Q (.bl (!(!(Builtin.Str.occurrences j i 0 j.length 1).isEmpty))) H) ∨ rIn K true x y H Q) (obl ninD) := fun m ca g S x y dx dy z Q hS r1 r2 e k => by
  unfold obl ninD inD at e
  split at e
  · cases r1.str; cases r2.str; cases e
    exact .inl ⟨_, _, rfl, rfl, k g _ (Ext.refl _) hS (.bl _)⟩
  · split at e
    · rename_i c
      cases e
      obtain ⟨q, vs, rfl, h1, t⟩ := r2.lst hS
      refine .inr ⟨q, vs, rfl, .inl (SqL.of h1), flat_v (r1.h hS) c.1, flat_vA t c.2, ?_⟩
      show Q (.bl (!inV x vs)) g.H
      rw [inF_v (r1.h hS) (RpA.mono hS.same (PiLe.refl _) t) c.2]; exact k g _ (Ext.refl _) hS (.bl _)
    · cases e
  · split at e
    · rename_i c
      cases e
      obtain ⟨q, vs, rfl, h1, t⟩ := r2.tup hS
      refine .inr ⟨q, vs, rfl, .inr (SqT.of h1), flat_v (r1.h hS) c.1, flat_vA t c.2, ?_⟩
      show Q (.bl (!inV x vs)) g.H
      rw [inF_v (r1.h hS) (RpA.mono hS.same (PiLe.refl _) t) c.2]; exact k g _ (Ext.refl _) hS (.bl _)
    · cases e
  · cases e
section
variable {m : Bool} {X : Cx} {W : WX} {ca : Ct} {a b e : Expr} {fa fb : En → M D} {pos : Pos} {k : Nat}
theorem de_in (ha : DB m X W ca a fa) (hb : DB m X W ca b fb) (hm : behindInMarks .In b = false := by rfl) : DE m X W ca (.Compare a [.In] [b] pos) (eBin (obl inD) fa fb) := de_cmp (op_in_str.or op_in_seq) rel_in ha hb hm
theorem dt_in (ha : DB m X W ca a fa) (hb : DB m X W ca b fb) (hm : behindInMarks .In b = false := by rfl) : DT m X W ca (.Compare a [.In] [b] pos) (tBin inD fa fb) := dt_cmp (op_in_str.or op_in_seq) rel_in ha hb hm
theorem de_nin (ha : DB m X W ca a fa) (hb : DB m X W ca b fb) (hm : behindInMarks .NotIn b = false := by rfl) : DE m X W ca (.Compare a [.NotIn] [b] pos) (eBin (obl ninD) fa fb) := de_cmp (op_notIn_str.or op_notIn_seq) rel_nin ha hb hm
theorem dt_nin (ha : DB m X W ca a fa) (hb : DB m X W ca b fb) (hm : behindInMarks .NotIn b = false := by rfl) : DT m X W ca (.Compare a [.NotIn] [b] pos) (tBin ninD fa fb) := dt_cmp (op_notIn_str.or op_notIn_seq) rel_nin ha hb hm
end
end Dn

namespace Dn
open PySem L2

section
variable {m : Bool} {X : Cx} {W : WX} {ca : Ct} {a b e : Expr} {fa fb : En → M D} {ta tb : En → M Bool} {pos : Pos} {rest : List Expr}
/-! ### and, or, not -/
def tAndD (a b : En → M Bool) : En → M Bool := fun env => M.bind (a env) fun x => if x = true then b env else M.ret false
def tOrD (a b : En → M Bool) : En → M Bool := fun env => M.bind (a env) fun x => if x = true then M.ret true else b env
def tNotD (a : En → M Bool) : En → M Bool := fun env => M.bind (a env) fun x => M.ret (!x)
theorem dw_and1 (ha : DT m X W ca a ta) : DW m X W ca (.BoolOp .And [a] pos) ta := let ⟨_, p, k⟩ := ha; ⟨_, pw_and1 p, k⟩
theorem dw_or1 (ha : DT m X W ca a ta) : DW m X W ca (.BoolOp .Or [a] pos) ta := let ⟨_, p, k⟩ := ha; ⟨_, pw_or1 p, k⟩
theorem dw_and (ha : DT m X W ca a ta) (hb : DW m X W ca (.BoolOp .And (b :: rest) pos) tb) : DW m X W ca (.BoolOp .And (a :: b :: rest) pos) (tAndD ta tb) := by
  obtain ⟨t1, p1, k1⟩ := ha
  obtain ⟨t2, p2, k2⟩ := hb
  refine ⟨_, pw_and p1 p2, fun H0 g S σ env hS hE Q h => k1 H0 g S σ env hS hE _ (sat_mono (seqT h) (fun x S1 q g1 e1 s1 => ?_) fun _ _ q => q)⟩
  have q := q g1 e1
  cases x with
  | true => exact k2 H0 g1 S1 σ env s1 (hE.ext e1) Q q
  | false => exact (show okT m ca g1 Q false S1 from q) g1 (Ext.refl _) s1
theorem dw_or (ha : DT m X W ca a ta) (hb : DW m X W ca (.BoolOp .Or (b :: rest) pos) tb) : DW m X W ca (.BoolOp .Or (a :: b :: rest) pos) (tOrD ta tb) := by
  obtain ⟨t1, p1, k1⟩ := ha
  obtain ⟨t2, p2, k2⟩ := hb
  refine ⟨_, pw_or p1 p2, fun H0 g S σ env hS hE Q h => k1 H0 g S σ env hS hE _ (sat_mono (seqT h) (fun x S1 q g1 e1 s1 => ?_) fun _ _ q => q)⟩
  have q := q g1 e1
  cases x with
  | false => exact k2 H0 g1 S1 σ env s1 (hE.ext e1) Q q
  | true => exact (show okT m ca g1 Q true S1 from q) g1 (Ext.refl _) s1
theorem DW.t (h : DW m X W ca e ta) : DT m X W ca e ta := let ⟨_, p, k⟩ := h; ⟨_, p.pt, k⟩
theorem dt_not (ha : DT m X W ca a ta) : DT m X W ca (.UnaryOp .Not a pos) (tNotD ta) := by
  obtain ⟨t1, p1, k1⟩ := ha
  refine ⟨_, pt_not p1, fun H0 g S σ env hS hE Q h => k1 H0 g S σ env hS hE _ (sat_mono (seqT h) (fun x S1 q g1 e1 s1 => ?_) fun _ _ q => q)⟩
  exact (show okT m ca g1 Q (!x) S1 from q g1 e1) g1 (Ext.refl _) s1
/-- as values -/
def eAndD (a b : En → M D) : En → M D := fun env => M.bind (a env) fun x => match x with
  | .bl k => if k = true then b env else M.ret (.bl false)
  | _ => M.bad
def eOrD (a b : En → M D) : En → M D := fun env => M.bind (a env) fun x => match x with
  | .bl k => if k = true then M.ret (.bl true) else b env
  | _ => M.bad
def eNotD (a : En → M D) : En → M D := fun env => M.bind (a env) fun x => match x with
  | .bl k => M.ret (.bl (!k))
  | _ => M.bad
theorem de_one {op} (h : DE m X W ca a fa) : DE m X W ca (.BoolOp op [a] pos) fa := let ⟨_, p, k⟩ := h; ⟨_, pe_one p, k⟩
theorem de_and (ha : DE m X W ca a fa) (hb : DE m X W ca (.BoolOp .And (b :: rest) pos) fb) : DE m X W ca (.BoolOp .And (a :: b :: rest) pos) (eAndD fa fb) := by
  obtain ⟨t1, p1, k1⟩ := ha
  obtain ⟨t2, p2, k2⟩ := hb
  refine ⟨_, pe_and p1 p2, fun H0 g S σ env hS hE Q h => k1 H0 g S σ env hS hE _ (sat_mono (seqE h) (fun x S1 q g1 v e1 s1 r1 => ?_) fun _ _ q => q)⟩
  have q := q g1 e1
  cases x with
  | bl k =>
    cases r1
    refine ⟨k, rfl, ?_⟩
    cases k with
    | true => exact k2 H0 g1 S1 σ env s1 (hE.ext e1) Q q
    | false => exact (show okE m ca g1 Q (.bl false) S1 from q) g1 _ (Ext.refl _) s1 (.bl _)
  | _ => exact q.elim
theorem de_or (ha : DE m X W ca a fa) (hb : DE m X W ca (.BoolOp .Or (b :: rest) pos) fb) : DE m X W ca (.BoolOp .Or (a :: b :: rest) pos) (eOrD fa fb) := by
  obtain ⟨t1, p1, k1⟩ := ha
  obtain ⟨t2, p2, k2⟩ := hb
  refine ⟨_, pe_or p1 p2, fun H0 g S σ env hS hE Q h => k1 H0 g S σ env hS hE _ (sat_mono (seqE h) (fun x S1 q g1 v e1 s1 r1 => ?_) fun _ _ q => q)⟩
  have q := q g1 e1
  cases x with
  | bl k =>
    cases r1
    refine ⟨k, rfl, ?_⟩
    cases k with
    | false => exact k2 H0 g1 S1 σ env s1 (hE.ext e1) Q q
    | true => exact (show okE m ca g1 Q (.bl true) S1 from q) g1 _ (Ext.refl _) s1 (.bl _)
  | _ => exact q.elim
theorem de_not (ha : DE m X W ca a fa) : DE m X W ca (.UnaryOp .Not a pos) (eNotD fa) := by
  obtain ⟨t1, p1, k1⟩ := ha
  refine ⟨_, pe_not p1, fun H0 g S σ env hS hE Q h => k1 H0 g S σ env hS hE _ (sat_mono (seqE h) (fun x S1 q g1 v e1 s1 r1 => ?_) fun _ _ q => q)⟩
  have q := q g1 e1
  cases x with
  | bl k =>
    cases r1
    exact ⟨k, rfl, (show okE m ca g1 Q (.bl (!k)) S1 from q) g1 _ (Ext.refl _) s1 (.bl _)⟩
  | _ => exact q.elim
/-- -n -/
def eNegD (a : En → M D) : En → M D := fun env => M.bind (a env) fun x => match x with
  | .int k => M.ret (.int (-k))
  | _ => M.bad
theorem de_neg (ha : DE m X W ca a fa) : DE m X W ca (.UnaryOp .USub a pos) (eNegD fa) := by
  obtain ⟨t1, p1, k1⟩ := ha
  refine ⟨_, pe_un un_neg p1, fun H0 g S σ env hS hE Q h => k1 H0 g S σ env hS hE _ (sat_mono (seqE h) (fun x S1 q g1 v e1 s1 r1 => ?_) fun _ _ q => q)⟩
  have q := q g1 e1
  cases x with
  | int k =>
    cases r1
    exact ⟨k, rfl, (show okE m ca g1 Q (.int (-k)) S1 from q) g1 _ (Ext.refl _) s1 (.int _)⟩
  | _ => exact q.elim
/-- a value as a test -/
def truD : D → Option Bool
  | .non => some false
  | .bl b => some b
  | .int i => some (i != 0)
  | .str y => if y.length ≤ lim then some ((y.length : Int) != 0) else none
  | .lst xs => some (!xs.isEmpty)
  | .tup xs => some (!xs.isEmpty)
  | .dct xs => some (!xs.isEmpty)
  | .scr _ => none
  | .obj _ => none
def tValD (a : En → M D) : En → M Bool := fun env => M.bind (a env) fun x => M.lift (truD x)
theorem emp_of {F : Hp} {p : Pi} {vs : List V} {ds : List D} (r : RpA F p vs ds) : vs.isEmpty = ds.isEmpty := by
  cases r <;> rfl
theorem emp_ofK {F : Hp} {p : Pi} {vs : List (Key × V)} {ds : List (Key × D)} (r : RpK F p vs ds) : vs.isEmpty = ds.isEmpty := by
  cases r <;> rfl
theorem dt_val (ha : DB m X W ca a fa) (he : ∀ whole, isTrue a X.env whole = (do let v ← whole; standAt a.pos; holding [v] (truthy v)) := by intro _; rfl) : DT m X W ca a (tValD fa) := by
  obtain ⟨t1, p1, k1⟩ := ha
  refine ⟨_, pt_truth p1 he, fun H0 g S σ env hS hE Q h => k1 H0 g S σ env hS hE _ (sat_mono (seqT h) (fun x S1 q g1 v e1 s1 r1 => ?_) fun _ _ q => q)⟩
  obtain ⟨k, hk, q⟩ := sat_lift (q g1 e1)
  refine ⟨k, ?_, q g1 (Ext.refl _) s1⟩
  have r := r1.h s1
  cases r with
  | non => cases hk; rfl
  | bl b => cases hk; rfl
  | int b => cases hk; rfl
  | str y =>
    have hk : (if y.length ≤ lim then some ((y.length : Int) != 0) else none) = some k := hk
    split at hk
    · rename_i c; cases hk; exact ⟨lim_lt c, rfl⟩
    · cases hk
  | lst h t => cases hk; exact .inl ⟨_, SqL.of h, by rw [emp_of t]⟩
  | tup h t => cases hk; exact .inr (.inl ⟨_, SqT.of h, by rw [emp_of t]⟩)
  | dct h t => cases hk; exact .inr (.inr ⟨_, h, by rw [emp_ofK t]⟩)
  | scr h => cases hk
  | obj h => cases hk
def eIfD (c : En → M Bool) (a b : En → M D) : En → M D := fun env => M.bind (c env) fun x => if x = true then a env else b env
theorem de_if {c : Expr} {tc : En → M Bool} (hc : DT m X W ca c tc) (ha : DE m X W ca a fa) (hb : DE m X W ca b fb) : DE m X W ca (.IfExp c a b pos) (eIfD tc fa fb) := by
  obtain ⟨t1, p1, k1⟩ := hc
  obtain ⟨t2, p2, k2⟩ := ha
  obtain ⟨t3, p3, k3⟩ := hb
  refine ⟨_, pe_ifExp p1 p2 p3, fun H0 g S σ env hS hE Q h => k1 H0 g S σ env hS hE _ (sat_mono (seqE h) (fun x S1 q g1 e1 s1 => ?_) fun _ _ q => q)⟩
  have q := q g1 e1
  cases x with
  | true => exact k2 H0 g1 S1 σ env s1 (hE.ext e1) Q q
  | false => exact k3 H0 g1 S1 σ env s1 (hE.ext e1) Q q

/-! ### subscripts -/
def ixD : D → D → Option D
  | .lst xs, .int i => atI xs i
  | .tup xs, .int i => atI xs i
  | .scr ns, .int i => (atI ns i).map D.int
  | .str s, .int i => if s.length ≤ lim then (atI s.cps.toList i).map fun c => .str ⟨#[c]⟩ else none
  | _, _ => none
theorem at_of {F : Hp} {p : Pi} {vs : List V} {ds : List D} {d : D} {i : Int} (r : RpA F p vs ds) (h : atI ds i = some d) : ∃ v, atI vs i = some v ∧ Rp F p v d := by
  unfold atI at h ⊢
  rw [r.length]
  cases e : ixN ds.length i with
  | none => rw [e] at h; cases h
  | some j =>
    rw [e] at h
    exact r.get j h
/-- as RelOp, the written part given -/
def RelOpK (K : PySem.W.Frag) (r : R2) (op : D → D → Option D) : Prop := ∀ (m : Bool) (ca : Ct) (g : G) (S : Store) (x y : V) (dx dy z : D) (Q : VK), ca.K = K → SOk ca g S → Rb m g x dx → Rb m g y dy → op dx dy = some z → okE m ca g Q z S → r x y g.H Q
theorem rel_ix {K : PySem.W.Frag} : RelOpK K (rIx K) ixD := fun m ca g S x y dx dy z Q hK hS r1 r2 e k => by
  unfold ixD at e
  split at e
  · obtain ⟨a, vs, rfl, h, t⟩ := r1.lst hS
    cases r2.int
    obtain ⟨v, h1, h2⟩ := at_of t e
    exact .inl ⟨a, vs, _, v, rfl, rfl, SqL.of h, h1, k g v (Ext.refl _) hS h2⟩
  · obtain ⟨a, vs, rfl, h, t⟩ := r1.tup hS
    cases r2.int
    obtain ⟨v, h1, h2⟩ := at_of t e
    exact .inr (.inl ⟨a, vs, _, v, rfl, rfl, SqT.of h, h1, k g v (Ext.refl _) hS h2⟩)
  · rename_i ns i
    cases r2.int
    cases e1 : atI ns i with
    | none => rw [e1] at e; cases e
    | some j =>
      rw [e1] at e; cases e
      have r := r1.h hS
      cases r with
      | scr h =>
        have hq := (hS.sc _ _ h).sq
        rw [hK] at hq
        obtain ⟨v, h1, h2⟩ := at_of (RpA.ints (F := g.F) (p := g.p) ns) (i := i) (d := .int j) (by
          unfold atI at e1 ⊢
          rw [List.length_map]
          cases e3 : ixN ns.length i with
          | none => rw [e3] at e1; cases e1
          | some k => rw [e3] at e1; simpa using e1)
        exact .inl ⟨_, _, _, v, rfl, rfl, hq, h1, k g v (Ext.refl _) hS h2⟩
  · rename_i s i
    cases r2.int
    cases r1.str
    split at e
    · rename_i c
      cases e1 : atI s.cps.toList i with
      | none => rw [e1] at e; cases e
      | some j =>
        rw [e1] at e; cases e
        exact .inr (.inr ⟨_, _, j, rfl, rfl, lim_lt c, e1, k g _ (Ext.refl _) hS (.str _)⟩)
    · cases e
  · cases e
theorem run2K {ta tb : TE} {r : R2} {op : D → D → Option D} (hK : ca.K = X.K) (ho : RelOpK X.K r op)
    (ka : ∀ H0 g S σ env, SOk ca g S → EnvOk H0 g σ env → ∀ Q : VK, (fa env S).sat (okB m ca g Q) (exE m ca W g σ) → ta σ g.H Q)
    (kb : ∀ H0 g S σ env, SOk ca g S → EnvOk H0 g σ env → ∀ Q : VK, (fb env S).sat (okB m ca g Q) (exE m ca W g σ) → tb σ g.H Q) :
    ∀ H0 g S σ env, SOk ca g S → EnvOk H0 g σ env → ∀ Q : VK, (eBin op fa fb env S).sat (okE m ca g Q) (exE m ca W g σ) → tOp r ta tb σ g.H Q := fun H0 g S σ env hS hE Q h => by
  refine ka H0 g S σ env hS hE _ (sat_mono (seqE h) (fun x S1 q g1 v e1 s1 r1 => ?_) fun _ _ q => q)
  refine kb H0 g1 S1 σ env s1 (hE.ext e1) _ (sat_mono (seqE (q g1 e1)) (fun y S2 q2 g2 u e2 s2 r2 => ?_) fun _ _ q => q)
  obtain ⟨z, hz, k⟩ := sat_lift (q2 g2 e2)
  exact ho m ca g2 S2 v u x y z Q hK s2 (r1.ext s2 e2) r2 hz k
theorem de_ix (ha : DB m X W ca a fa) (hb : DB m X W ca b fb) (hK : ca.K = X.K := by rfl) (hs : PlainIx b := by intro _ _; rfl) : DE m X W ca (.Subscript a b pos) (eBin ixD fa fb) := by
  obtain ⟨ta, pa, ka⟩ := ha
  obtain ⟨tb, pb, kb⟩ := hb
  exact ⟨_, pe_ix ix_seq pa pb hs, run2K hK rel_ix ka kb⟩
/-- a dict's keys, its look -/
def keyD : D → Option Key
  | .int i => some (.inl i)
  | .str s => some (.inr s)
  | _ => none
def getK (kvs : List (Key × D)) (k : Key) : Option D := (kvs.find? fun kv => decide (kv.1 = k)).map (·.2)
def dgetD : D → D → Option D
  | .dct kvs, y => (keyD y).bind (getK kvs)
  | _, _ => none
theorem getK_v {F : Hp} {p : Pi} {vs : List (Key × V)} {ds : List (Key × D)} (r : RpK F p vs ds) (k : Key) :
    (getK ds k = none ∧ valV vs k = none) ∨ ∃ d v, getK ds k = some d ∧ valV vs k = some v ∧ Rp F p v d := by
  induction ds generalizing vs with
  | nil => cases r; exact .inl ⟨rfl, rfl⟩
  | cons x ds ih =>
    cases r with
    | @cons k' v d vs _ h t =>
      by_cases e : k' = k
      · exact .inr ⟨d, v, by simp [getK, List.find?_cons, e], by simp [valV, List.find?_cons, e], h⟩
      · have e1 : getK ((k', d) :: ds) k = getK ds k := by simp [getK, List.find?_cons, e]
        have e2 : valV ((k', v) :: vs) k = valV vs k := by simp [valV, List.find?_cons, e]
        rw [e1, e2]
        exact ih t
theorem keyD_v {F : Hp} {p : Pi} {y : V} {d : D} {k : Key} (r : Rp F p y d) (h : keyD d = some k) : y = kV k := by
  cases r <;> cases h <;> rfl
theorem Rb.dct {m : Bool} {ca : Ct} {S : Store} {g : G} (hS : SOk ca g S) {x : V} {ds : List (Key × D)} (r : Rb m g x (.dct ds)) : ∃ a vs, x = .ref a ∧ g.H a = some (.dK vs) ∧ RpK g.F g.p vs ds := by
  rcases r with r | ⟨_, _, _, _, h, _⟩ | ⟨q, vs, xs, h1, h2, h3, h4, h6⟩
  · cases r with
    | dct h t => exact ⟨_, _, rfl, hS.same _ _ h, t⟩
  · cases h
  · cases h2; exact ⟨q, vs, h1, h3, h6⟩
theorem de_dget {k : Nat} (hr : Room k X.A) (ha : DB m X W ca a fa) (hb : DB m X W ca b fb) (hs : NoSl b := by intro _ _; rfl) : DE m X W ca (.Subscript a b pos) (eBin dgetD fa fb) := by
  obtain ⟨ta, pa, ka⟩ := ha
  obtain ⟨tb, pb, kb⟩ := hb
  refine ⟨_, pe_dget (hu_of hr) pa pb hs, run2 (r := fun x y H Q => ∃ a v, x = .ref a ∧ DGet H a y (some v) ∧ Q v H) (fun m ca g S x y dx dy z Q hS r1 r2 e k => ?_) ka kb⟩
  cases dx with
  | dct kvs =>
    obtain ⟨a, vs, rfl, h, t⟩ := r1.dct hS
    have e : (keyD dy).bind (getK kvs) = some z := e
    cases e1 : keyD dy with
    | none => rw [e1] at e; cases e
    | some q =>
      rw [e1] at e
      have e : getK kvs q = some z := e
      rcases getK_v t q with ⟨h1, _⟩ | ⟨d, v, h1, h2, h3⟩
      · rw [h1] at e; cases e
      · rw [h1] at e; cases e
        refine ⟨a, v, rfl, ?_, k g v (Ext.refl _) hS h3⟩
        rw [keyD_v (r2.h hS) e1, ← h2]
        exact DGet.k h
  | _ => cases e

/-! ### slices -/
def oPart (o : Option (En → M D)) : En → M (Option Int) := match o with
  | none => fun _ => M.ret none
  | some f => fun env => M.bind (f env) fun x => match x with
    | .int i => M.ret (some i)
    | _ => M.bad
def DP (m : Bool) (X : Cx) (W : WX) (ca : Ct) (e : Option Expr) (f : En → M (Option Int)) : Prop :=
  ∃ t, PO X e t ∧ ∀ H0 g S σ env, SOk ca g S → EnvOk H0 g σ env → ∀ Q : Option Int → Hp → Prop, (f env S).sat (fun o S' => ∀ g', Ext m g g' → SOk ca g' S' → Q o g'.H) (exE m ca W g σ) → t σ g.H Q
theorem dp_none : DP m X W ca none (oPart none) := ⟨_, po_none, fun H0 g S σ env hS hE Q h => h g (Ext.refl _) hS⟩
theorem dp_some (ha : DE m X W ca a fa) : DP m X W ca (some a) (oPart (some fa)) := by
  obtain ⟨t, p, k⟩ := ha
  refine ⟨_, po_some p, fun H0 g S σ env hS hE Q h => k H0 g S σ env hS hE _ (sat_mono (sat_bind h) (fun x S1 q g1 v e1 s1 r1 => ?_) fun _ _ q => q)⟩
  cases x with
  | int i =>
    cases r1
    exact ⟨i, rfl, (show ∀ g', Ext m g g' → SOk ca g' S1 → Q (some i) g'.H from q) g1 e1 s1⟩
  | _ => exact q.elim
def cutD (xs : List D) (lo hi : Option Int) : List D := (xs.drop (HT.sIx xs.length 0 lo)).take (HT.sIx xs.length xs.length hi - HT.sIx xs.length 0 lo)
def cutI (xs : List Int) (lo hi : Option Int) : List Int := (xs.drop (HT.sIx xs.length 0 lo)).take (HT.sIx xs.length xs.length hi - HT.sIx xs.length 0 lo)
theorem cut_rp {F : Hp} {p : Pi} {vs : List V} {ds : List D} (r : RpA F p vs ds) (lo hi : Option Int) : RpA F p (cutV vs lo hi) (cutD ds lo hi) := by
  unfold cutV cutD
  rw [r.length]
  exact RpA.take _ (RpA.drop _ r)
/-- xs[lo:hi], a new list -/
def oSl (a : En → M D) (lo hi : En → M (Option Int)) : En → M (List D) := fun env => M.bind (a env) fun x => M.bind (lo env) fun l => M.bind (hi env) fun u => match x with
  | .lst xs => M.ret (cutD xs l u)
  | .scr ns => M.ret ((cutI ns l u).map D.int)
  | _ => M.bad
/-- s[lo:hi], a text -/
def eSl (a : En → M D) (lo hi : En → M (Option Int)) : En → M D := fun env => M.bind (a env) fun x => M.bind (lo env) fun l => M.bind (hi env) fun u => match x with
  | .str s => if s.length ≤ lim then M.ret (.str (cutS s l u)) else M.bad
  | _ => M.bad
theorem do_sl {lo hi : Option Expr} {fl fh : En → M (Option Int)} {p2 : Pos} (ha : DB m X W ca a fa) (hl : DP m X W ca lo fl) (hh : DP m X W ca hi fh) (hK : ca.K = X.K := by rfl) : DO m X W ca (.Subscript a (.Slice lo hi none p2) pos) (oSl fa fl fh) := by
  obtain ⟨t1, p1, k1⟩ := ha
  obtain ⟨t2, q2, k2⟩ := hl
  obtain ⟨t3, p3, k3⟩ := hh
  refine ⟨_, pe_slice sl_list p1 q2 p3, fun H0 g S σ env hS hE Q h => ?_⟩
  refine k1 H0 g S σ env hS hE _ (sat_mono (seqO h) (fun x S1 q g1 v e1 s1 r1 => ?_) fun _ _ q => q)
  refine k2 H0 g1 S1 σ env s1 (hE.ext e1) _ (sat_mono (seqO (q g1 e1)) (fun l S2 q g2 e2 s2 => ?_) fun _ _ q => q)
  refine k3 H0 g2 S2 σ env s2 (hE.ext (e1.trans e2)) _ (sat_mono (seqO (q g2 e2)) (fun u S3 q g3 e3 s3 => ?_) fun _ _ q => q)
  have q := q g3 e3
  have r1 := r1.ext s3 (e2.trans e3)
  cases x with
  | lst xs =>
    obtain ⟨a, vs, rfl, h, t⟩ := r1.lst s3
    refine ⟨a, vs, rfl, SqL.of h, fun z hz => ?_⟩
    exact (show okO m ca g3 Q (cutD xs l u) S3 from q) (g3.nw z _) z _ (ext_nw s3 hz _) (sok_nw s3 hz _) hz upd_same (s3.free hz) (s3.nop hz) (cut_rp t l u)
  | scr ns =>
    have r := r1.h s3
    cases r with
    | scr h =>
      have hq := (s3.sc _ _ h).sq
      rw [hK] at hq
      refine ⟨_, _, rfl, hq, fun z hz => ?_⟩
      have e9 : cutD (ns.map D.int) l u = (cutI ns l u).map D.int := by unfold cutD cutI; simp [List.map_take, List.map_drop]
      refine (show okO m ca g3 Q ((cutI ns l u).map D.int) S3 from q) (g3.nw z _) z _ (ext_nw s3 hz _) (sok_nw s3 hz _) hz upd_same (s3.free hz) (s3.nop hz) ?_
      rw [← e9]
      exact cut_rp (RpA.ints ns) l u
  | _ => exact q.elim
theorem de_sl {lo hi : Option Expr} {fl fh : En → M (Option Int)} {p2 : Pos} (ha : DB m X W ca a fa) (hl : DP m X W ca lo fl) (hh : DP m X W ca hi fh) : DE m X W ca (.Subscript a (.Slice lo hi none p2) pos) (eSl fa fl fh) := by
  obtain ⟨t1, p1, k1⟩ := ha
  obtain ⟨t2, q2, k2⟩ := hl
  obtain ⟨t3, p3, k3⟩ := hh
  refine ⟨_, pe_slice sl_str p1 q2 p3, fun H0 g S σ env hS hE Q h => ?_⟩
  refine k1 H0 g S σ env hS hE _ (sat_mono (seqE h) (fun x S1 q g1 v e1 s1 r1 => ?_) fun _ _ q => q)
  refine k2 H0 g1 S1 σ env s1 (hE.ext e1) _ (sat_mono (seqE (q g1 e1)) (fun l S2 q g2 e2 s2 => ?_) fun _ _ q => q)
  refine k3 H0 g2 S2 σ env s2 (hE.ext (e1.trans e2)) _ (sat_mono (seqE (q g2 e2)) (fun u S3 q g3 e3 s3 => ?_) fun _ _ q => q)
  have q := q g3 e3
  have r1 := r1.ext s3 (e2.trans e3)
  cases x with
  | str xs =>
    cases r1.str
    dsimp only at q
    by_cases c : xs.length ≤ lim
    · rw [if_pos c] at q
      exact ⟨xs, rfl, lim_lt c, (show okE m ca g3 Q (.str (cutS xs l u)) S3 from q) g3 _ (Ext.refl _) s3 (.str _)⟩
    · rw [if_neg c] at q; exact q.elim
  | _ => exact q.elim
end
end Dn

namespace Dn
open PySem L2

/-! ### arguments that are read for now -/
inductive RbA (m : Bool) (g : G) : List V → List D → Prop where
  | nil : RbA m g [] []
  | cons {v : V} {d : D} {vs : List V} {ds : List D} : Rb m g v d → RbA m g vs ds → RbA m g (v :: vs) (d :: ds)
theorem RbA.ext {m : Bool} {ca : Ct} {S : Store} {g g' : G} (hS : SOk ca g' S) (e : Ext m g g') : ∀ {vs : List V} {ds : List D}, RbA m g vs ds → RbA m g' vs ds
  | _, _, .nil => .nil
  | _, _, .cons h t => .cons (h.ext hS e) (RbA.ext hS e t)
def okBA (m : Bool) (ca : Ct) (g : G) (Q : List V → Hp → Prop) : List D → Store → Prop := fun ds S' => ∀ g' vs, Ext m g g' → SOk ca g' S' → RbA m g' vs ds → Q vs g'.H
def DAB (m : Bool) (X : Cx) (W : WX) (ca : Ct) (es : List Expr) (f : En → M (List D)) : Prop :=
  ∃ t, PA X es t ∧ ∀ H0 g S σ env, SOk ca g S → EnvOk H0 g σ env → ∀ Q : List V → Hp → Prop, (f env S).sat (okBA m ca g Q) (exE m ca W g σ) → t σ g.H Q
section
variable {m : Bool} {X : Cx} {W : WX} {ca : Ct} {a b e : Expr} {fa fb : En → M D} {es : List Expr} {fs : En → M (List D)} {pos : Pos}
theorem seqBA {α : Type} {c : M α} {k : α → M (List D)} {S : Store} {g : G} {σ : L2.St} {Q : List V → Hp → Prop} (h : (M.bind c k S).sat (okBA m ca g Q) (exE m ca W g σ)) :
    (c S).sat (fun a S' => ∀ g', Ext m g g' → (k a S').sat (okBA m ca g' Q) (exE m ca W g' σ)) (exE m ca W g σ) :=
  sat_mono (sat_bind h) (fun a S' h g' e => sat_mono h (fun d S2 q g2 v e2 s r => q g2 v (e.trans e2) s r) fun c S2 q => q.mono e) fun _ _ q => q
theorem dab_nil : DAB m X W ca [] aNil := ⟨_, pa_nil, fun H0 g S σ env hS hE Q h => h g [] (Ext.refl g) hS .nil⟩
theorem dab_cons (h1 : DB m X W ca e fa) (h2 : DAB m X W ca es fs) (hs : starEach (e :: es) X.env = (false, eval e X.env) :: starEach es X.env := by rfl) : DAB m X W ca (e :: es) (aCons fa fs) := by
  obtain ⟨t, p, k⟩ := h1
  obtain ⟨t2, p2, k2⟩ := h2
  refine ⟨_, pa_cons p p2 hs, fun H0 g S σ env hS hE Q h => ?_⟩
  refine k H0 g S σ env hS hE _ (sat_mono (seqBA h) (fun d S1 q g1 v e1 s1 r1 => ?_) fun _ _ q => q)
  refine k2 H0 g1 S1 σ env s1 (hE.ext e1) _ (sat_mono (seqBA (q g1 e1)) (fun ds S2 q2 g2 vs e2 s2 r2 => ?_) fun _ _ q => q)
  exact (show okBA m ca g2 Q (d :: ds) S2 from q2 g2 e2) g2 _ (Ext.refl g2) s2 (.cons (r1.ext s2 e2) r2)

/-! ### built-in functions -/
def RelC (K : PySem.W.Frag) (r : List V → Hp → VK → Prop) (op : List D → Option D) : Prop := ∀ (m : Bool) (ca : Ct) (g : G) (S : Store) (vs : List V) (ds : List D) (z : D) (Q : VK), ca.K = K → SOk ca g S → RbA m g vs ds → op ds = some z → okE m ca g Q z S → r vs g.H Q
def eCall (op : List D → Option D) (fs : En → M (List D)) : En → M D := fun env => M.bind (fs env) fun ds => M.lift (op ds)
theorem runC {r : List V → Hp → VK → Prop} {op : List D → Option D} {t : TA} (hK : ca.K = X.K) (ho : RelC X.K r op)
    (k : ∀ H0 g S σ env, SOk ca g S → EnvOk H0 g σ env → ∀ Q : List V → Hp → Prop, (fs env S).sat (okBA m ca g Q) (exE m ca W g σ) → t σ g.H Q) :
    ∀ H0 g S σ env, SOk ca g S → EnvOk H0 g σ env → ∀ Q : VK, (eCall op fs env S).sat (okE m ca g Q) (exE m ca W g σ) → tCB r t σ g.H Q := fun H0 g S σ env hS hE Q h => by
  refine k H0 g S σ env hS hE _ (sat_mono (seqE h) (fun ds S1 q g1 vs e1 s1 r1 => ?_) fun _ _ q => q)
  obtain ⟨z, hz, k⟩ := sat_lift (q g1 e1)
  exact ho m ca g1 S1 vs ds z Q hK s1 r1 hz k
theorem de_fnB {x : Str} {id : String} {r : List V → Hp → VK → Prop} {op : List D → Option D} {p : Pos} (hc : CallR X (.builtin id) r) (hK : ca.K = X.K) (ho : RelC X.K r op) (hg : Gl X x) (hm : X.mg x = none) (hv : bootBuiltins x = some (.builtin id)) (ha : DAB m X W ca (e :: es) fs)
    (hn : x ≠ "__name__" := by decide) (hdb : (x == ("__debug__" : Str)) = false := by decide) (he : starEach (e :: es) X.env = (false, eval e X.env) :: starEach es X.env := by rfl) (hpl : (backTo pos (starEach es X.env)).any (·.1) = false := by rfl) :
    DE m X W ca (.Call (.Name x p) (e :: es) [] pos) (eCall op fs) := by
  obtain ⟨t, p, k⟩ := ha
  exact ⟨_, pe_callB hc hg hm hv p hn hdb he hpl, runC hK ho k⟩
theorem de_fnT {x : Str} {T : String} {r : List V → Hp → VK → Prop} {op : List D → Option D} {p : Pos} (hc : CallR X (.type T) r) (hK : ca.K = X.K) (ho : RelC X.K r op) (hg : Gl X x) (hm : X.mg x = none) (hv : bootBuiltins x = some (.type T)) (ha : DAB m X W ca (e :: es) fs)
    (hn : x ≠ "__name__" := by decide) (hdb : (x == ("__debug__" : Str)) = false := by decide) (he : starEach (e :: es) X.env = (false, eval e X.env) :: starEach es X.env := by rfl) (hpl : (backTo pos (starEach es X.env)).any (·.1) = false := by rfl) :
    DE m X W ca (.Call (.Name x p) (e :: es) [] pos) (eCall op fs) := by
  obtain ⟨t, p, k⟩ := ha
  exact ⟨_, pe_callTy hc hg hm hv p hn hdb he hpl, runC hK ho k⟩
theorem rba1 {g : G} {vs : List V} {d : D} (r : RbA m g vs [d]) : ∃ v, vs = [v] ∧ Rb m g v d := by
  cases r with
  | cons h t => cases t; exact ⟨_, rfl, h⟩
theorem rba2 {g : G} {vs : List V} {d d' : D} (r : RbA m g vs [d, d']) : ∃ v v', vs = [v, v'] ∧ Rb m g v d ∧ Rb m g v' d' := by
  cases r with
  | cons h t => obtain ⟨w, rfl, h2⟩ := rba1 t; exact ⟨_, _, rfl, h, h2⟩
/-- len -/
def lenO : List D → Option D
  | [.str s] => if s.length ≤ lim then some (.int s.length) else none
  | [.lst xs] => some (.int xs.length)
  | [.tup xs] => some (.int xs.length)
  | [.scr xs] => some (.int xs.length)
  | _ => none
theorem rel_len {K : PySem.W.Frag} : RelC K (fun xs H Q => ∃ x n, xs = [x] ∧ LenV K x H n ∧ Q (.int n) H) lenO := fun m ca g S vs ds z Q hK hS r e k => by
  unfold lenO at e
  split at e
  · split at e
    · rename_i c; cases e
      obtain ⟨v, rfl, h⟩ := rba1 r
      cases h.str
      exact ⟨_, _, rfl, ⟨lim_lt c, rfl⟩, k g _ (Ext.refl _) hS (.int _)⟩
    · cases e
  · cases e
    obtain ⟨v, rfl, h⟩ := rba1 r
    obtain ⟨a, vs, rfl, h1, h2⟩ := h.lst hS
    exact ⟨_, _, rfl, .inl ⟨vs, SqL.of h1, h2.length.symm⟩, k g _ (Ext.refl _) hS (.int _)⟩
  · cases e
    obtain ⟨v, rfl, h⟩ := rba1 r
    obtain ⟨a, vs, rfl, h1, h2⟩ := h.tup hS
    exact ⟨_, _, rfl, .inr ⟨vs, SqT.of h1, h2.length.symm⟩, k g _ (Ext.refl _) hS (.int _)⟩
  · cases e
    obtain ⟨v, rfl, h⟩ := rba1 r
    have h := h.h hS
    cases h with
    | scr h =>
      have hq := (hS.sc _ _ h).sq
      rw [hK] at hq
      exact ⟨_, _, rfl, .inl ⟨_, hq, by simp⟩, k g _ (Ext.refl _) hS (.int _)⟩
  · cases e
theorem de_len {p : Pos} (ha : DB m X W ca a fa) (hK : ca.K = X.K := by rfl) (hg : Gl X "len" := by rfl) (hm : X.mg "len" = none := by assumption) (hs : starEach [a] X.env = (false, eval a X.env) :: starEach [] X.env := by rfl) : DE m X W ca (.Call (.Name "len" p) [a] [] pos) (eCall lenO (aCons fa aNil)) :=
  de_fnB call_len hK rel_len hg hm PySem.boot_len (dab_cons ha dab_nil hs) (he := hs)
def maxO : List D → Option D
  | [.int i, .int j] => some (.int (if j > i then j else i))
  | _ => none
def minO : List D → Option D
  | [.int i, .int j] => some (.int (if j < i then j else i))
  | _ => none
theorem rel_max {K : PySem.W.Frag} : RelC K (fun xs H Q => ∃ i j, xs = [.int i, .int j] ∧ Q (.int (if j > i then j else i)) H) maxO := fun m ca g S vs ds z Q _ hS r e k => by
  unfold maxO at e
  split at e
  · cases e
    obtain ⟨v, v', rfl, h, h'⟩ := rba2 r
    cases h.int; cases h'.int
    exact ⟨_, _, rfl, k g _ (Ext.refl _) hS (.int _)⟩
  · cases e
theorem rel_min {K : PySem.W.Frag} : RelC K (fun xs H Q => ∃ i j, xs = [.int i, .int j] ∧ Q (.int (if j < i then j else i)) H) minO := fun m ca g S vs ds z Q _ hS r e k => by
  unfold minO at e
  split at e
  · cases e
    obtain ⟨v, v', rfl, h, h'⟩ := rba2 r
    cases h.int; cases h'.int
    exact ⟨_, _, rfl, k g _ (Ext.refl _) hS (.int _)⟩
  · cases e
theorem de_max2 {p : Pos} (hc : X.calm = true) (ha : DB m X W ca a fa) (hb : DB m X W ca b fb) (hK : ca.K = X.K := by rfl) (hg : Gl X "max" := by rfl) (hm : X.mg "max" = none := by assumption) (hs : starEach [a, b] X.env = (false, eval a X.env) :: starEach [b] X.env := by rfl) (hs2 : starEach [b] X.env = (false, eval b X.env) :: starEach [] X.env := by rfl) (hpl : (backTo pos (starEach [b] X.env)).any (·.1) = false := by rfl) :
    DE m X W ca (.Call (.Name "max" p) [a, b] [] pos) (eCall maxO (aCons fa (aCons fb aNil))) :=
  de_fnB (call_max2 hc) hK rel_max hg hm (by decide +kernel) (dab_cons ha (dab_cons hb dab_nil hs2) hs) (he := hs) (hpl := hpl)
theorem de_min2 {p : Pos} (hc : X.calm = true) (ha : DB m X W ca a fa) (hb : DB m X W ca b fb) (hK : ca.K = X.K := by rfl) (hg : Gl X "min" := by rfl) (hm : X.mg "min" = none := by assumption) (hs : starEach [a, b] X.env = (false, eval a X.env) :: starEach [b] X.env := by rfl) (hs2 : starEach [b] X.env = (false, eval b X.env) :: starEach [] X.env := by rfl) (hpl : (backTo pos (starEach [b] X.env)).any (·.1) = false := by rfl) :
    DE m X W ca (.Call (.Name "min" p) [a, b] [] pos) (eCall minO (aCons fa (aCons fb aNil))) :=
  de_fnB (call_min2 hc) hK rel_min hg hm (by decide +kernel) (dab_cons ha (dab_cons hb dab_nil hs2) hs) (he := hs) (hpl := hpl)
/-- int(flag), int(n), int(text) -/
def intO : List D → Option D
  | [.int i] => some (.int i)
  | [.bl k] => some (.int (if k then 1 else 0))
  | [.str s] => if s.length ≤ 640 then (PySem.intText? s).map D.int else none
  | _ => none
theorem rel_int {K : PySem.W.Frag} : RelC K (fun xs H Q => ((∃ i, xs = [.int i] ∧ Q (.int i) H) ∨ ∃ k, xs = [.bl k] ∧ Q (.int (if k then 1 else 0)) H) ∨ ∃ a n, xs = [.str a] ∧ PySem.intText? a = some n ∧ a.length ≤ 640 ∧ Q (.int n) H) intO := fun m ca g S vs ds z Q _ hS r e k => by
  unfold intO at e
  split at e
  · cases e
    obtain ⟨v, rfl, h⟩ := rba1 r
    cases h.int
    exact .inl (.inl ⟨_, rfl, k g _ (Ext.refl _) hS (.int _)⟩)
  · cases e
    obtain ⟨v, rfl, h⟩ := rba1 r
    cases h.bl
    exact .inl (.inr ⟨_, rfl, k g _ (Ext.refl _) hS (.int _)⟩)
  · rename_i s
    split at e
    · rename_i c
      cases e1 : PySem.intText? s with
      | none => rw [e1] at e; cases e
      | some n =>
        rw [e1] at e; cases e
        obtain ⟨v, rfl, h⟩ := rba1 r
        cases h.str
        exact .inr ⟨_, _, rfl, e1, c, k g _ (Ext.refl _) hS (.int _)⟩
    · cases e
  · cases e
theorem de_intF {p : Pos} (ha : DB m X W ca a fa) (hK : ca.K = X.K := by rfl) (hg : Gl X "int" := by rfl) (hm : X.mg "int" = none := by assumption) (hs : starEach [a] X.env = (false, eval a X.env) :: starEach [] X.env := by rfl) : DE m X W ca (.Call (.Name "int" p) [a] [] pos) (eCall intO (aCons fa aNil)) :=
  de_fnT (call_int1.or call_int_str) hK rel_int hg hm (by decide +kernel) (dab_cons ha dab_nil hs) (he := hs)
def strO : List D → Option D
  | [.int i] => if i.natAbs.log2 < 1920 then some (.str (toString i)) else none
  | _ => none
/-- str(text) is the text -/
theorem rel_str {K : PySem.W.Frag} : RelC K (fun xs H Q => ∃ i, xs = [.int i] ∧ i.natAbs.log2 < 1920 ∧ Q (.str (toString i)) H) strO := fun m ca g S vs ds z Q _ hS r e k => by
  unfold strO at e
  split at e
  · split at e
    · rename_i c; cases e
      obtain ⟨v, rfl, h⟩ := rba1 r
      cases h.int
      exact ⟨_, rfl, c, k g _ (Ext.refl _) hS (.str _)⟩
    · cases e
  · cases e
theorem de_strI {p : Pos} (ha : DB m X W ca a fa) (hK : ca.K = X.K := by rfl) (hg : Gl X "str" := by rfl) (hm : X.mg "str" = none := by assumption) (hs : starEach [a] X.env = (false, eval a X.env) :: starEach [] X.env := by rfl) : DE m X W ca (.Call (.Name "str" p) [a] [] pos) (eCall strO (aCons fa aNil)) :=
  de_fnT call_str_int hK rel_str hg hm (by decide +kernel) (dab_cons ha dab_nil hs) (he := hs)
def ordO : List D → Option D
  | [.str s] => if s.length = 1 then some (.int (s.cps.getD 0 0 : Nat)) else none
  | _ => none
theorem rel_ord {K : PySem.W.Frag} : RelC K (fun xs H Q => ∃ x, xs = [.str x] ∧ x.length = 1 ∧ Q (.int (x.cps.getD 0 0 : Nat)) H) ordO := fun m ca g S vs ds z Q _ hS r e k => by
  unfold ordO at e
  split at e
  · split at e
    · rename_i c; cases e
      obtain ⟨v, rfl, h⟩ := rba1 r
      cases h.str
      exact ⟨_, rfl, c, k g _ (Ext.refl _) hS (.int _)⟩
    · cases e
  · cases e
theorem de_ord {p : Pos} (ha : DB m X W ca a fa) (hK : ca.K = X.K := by rfl) (hg : Gl X "ord" := by rfl) (hm : X.mg "ord" = none := by assumption) (hs : starEach [a] X.env = (false, eval a X.env) :: starEach [] X.env := by rfl) : DE m X W ca (.Call (.Name "ord" p) [a] [] pos) (eCall ordO (aCons fa aNil)) :=
  de_fnB call_ord hK rel_ord hg hm (by decide +kernel) (dab_cons ha dab_nil hs) (he := hs)
/-- lists of bools, of ints -/
def blsD : List D → Option (List Bool)
  | [] => some []
  | .bl b :: r => (blsD r).map (b :: ·)
  | _ => none
def intsD : List D → Option (List Int)
  | [] => some []
  | .int b :: r => (intsD r).map (b :: ·)
  | _ => none
def strsD : List D → Option (List Str)
  | [] => some []
  | .str b :: r => (strsD r).map (b :: ·)
  | _ => none
theorem bls_v {F : Hp} {p : Pi} : ∀ {ds : List D} {vs : List V} {bs : List Bool}, RpA F p vs ds → blsD ds = some bs → vs = bs.map V.bl
  | [], _, _, r, e => by cases r; cases e; rfl
  | d :: ds, _, bs, r, e => by
    cases r with
    | cons h t =>
      cases d with
      | bl b =>
        cases h
        cases e1 : blsD ds with
        | none => simp [blsD, e1] at e
        | some cs =>
          have e : some (b :: cs) = some bs := by simpa [blsD, e1] using e
          cases e
          rw [bls_v t e1]; rfl
      | _ => cases e
theorem ints_v {F : Hp} {p : Pi} : ∀ {ds : List D} {vs : List V} {bs : List Int}, RpA F p vs ds → intsD ds = some bs → vs = bs.map V.int
  | [], _, _, r, e => by cases r; cases e; rfl
  | d :: ds, _, bs, r, e => by
    cases r with
    | cons h t =>
      cases d with
      | int b =>
        cases h
        cases e1 : intsD ds with
        | none => simp [intsD, e1] at e
        | some cs =>
          have e : some (b :: cs) = some bs := by simpa [intsD, e1] using e
          cases e
          rw [ints_v t e1]; rfl
      | _ => cases e
theorem strs_v {F : Hp} {p : Pi} : ∀ {ds : List D} {vs : List V} {bs : List Str}, RpA F p vs ds → strsD ds = some bs → vs = bs.map V.str
  | [], _, _, r, e => by cases r; cases e; rfl
  | d :: ds, _, bs, r, e => by
    cases r with
    | cons h t =>
      cases d with
      | str b =>
        cases h
        cases e1 : strsD ds with
        | none => simp [strsD, e1] at e
        | some cs =>
          have e : some (b :: cs) = some bs := by simpa [strsD, e1] using e
          cases e
          rw [strs_v t e1]; rfl
      | _ => cases e
def allO : List D → Option D
  | [.lst xs] => (blsD xs).map fun bs => .bl (bs.all id)
  | _ => none
theorem rel_all {K : PySem.W.Frag} : RelC K (rAll K) allO := fun m ca g S vs ds z Q _ hS r e k => by
  unfold allO at e
  split at e
  · rename_i xs
    cases e1 : blsD xs with
    | none => rw [e1] at e; cases e
    | some bs =>
      rw [e1] at e; cases e
      obtain ⟨v, rfl, h⟩ := rba1 r
      obtain ⟨a, vs, rfl, h1, h2⟩ := h.lst hS
      cases bls_v h2 e1
      exact ⟨a, bs, rfl, SqL.of h1, k g _ (Ext.refl _) hS (.bl _)⟩
  · cases e
theorem de_all {p : Pos} (hc : X.calm = true) (ha : DB m X W ca a fa) (hK : ca.K = X.K := by rfl) (hg : Gl X "all" := by rfl) (hm : X.mg "all" = none := by assumption) (hs : starEach [a] X.env = (false, eval a X.env) :: starEach [] X.env := by rfl) : DE m X W ca (.Call (.Name "all" p) [a] [] pos) (eCall allO (aCons fa aNil)) :=
  de_fnB (cr_all hc) hK rel_all hg hm (by decide +kernel) (dab_cons ha dab_nil hs) (he := hs)
def sumO : List D → Option D
  | [.lst xs] => (intsD xs).map fun bs => .int bs.sum
  | _ => none
theorem rel_sum {K : PySem.W.Frag} : RelC K (rSum K) sumO := fun m ca g S vs ds z Q _ hS r e k => by
  unfold sumO at e
  split at e
  · rename_i xs
    cases e1 : intsD xs with
    | none => rw [e1] at e; cases e
    | some bs =>
      rw [e1] at e; cases e
      obtain ⟨v, rfl, h⟩ := rba1 r
      obtain ⟨a, vs, rfl, h1, h2⟩ := h.lst hS
      cases ints_v h2 e1
      exact ⟨a, bs, rfl, SqL.of h1, k g _ (Ext.refl _) hS (.int _)⟩
  · cases e
theorem de_sum {p : Pos} (hc : X.calm = true) (ha : DB m X W ca a fa) (hK : ca.K = X.K := by rfl) (hg : Gl X "sum" := by rfl) (hm : X.mg "sum" = none := by assumption) (hs : starEach [a] X.env = (false, eval a X.env) :: starEach [] X.env := by rfl) : DE m X W ca (.Call (.Name "sum" p) [a] [] pos) (eCall sumO (aCons fa aNil)) :=
  de_fnB (cr_sum hc) hK rel_sum hg hm (by decide +kernel) (dab_cons ha dab_nil hs) (he := hs)
def greatest : List Int → Option Int
  | [] => none
  | x :: xs => match greatest xs with
    | none => some x
    | some y => some (if x < y then y else x)
def least : List Int → Option Int
  | [] => none
  | x :: xs => match least xs with
    | none => some x
    | some y => some (if y < x then y else x)
theorem greatest_is : ∀ {ns : List Int} {z m : Int}, greatest ns = some z → m ∈ ns → (∀ y ∈ ns, y ≤ m) → z = m
  | x :: xs, z, m, e, hm, hle => by
    unfold greatest at e
    cases e1 : greatest xs with
    | none =>
      rw [e1] at e; cases e
      have : xs = [] := by
        cases xs with
        | nil => rfl
        | cons a r => simp only [greatest] at e1; split at e1 <;> cases e1
      subst this
      exact (List.mem_singleton.mp hm).symm
    | some y =>
      rw [e1] at e; cases e
      have hx := hle x List.mem_cons_self
      rcases List.mem_cons.mp hm with rfl | hm'
      · have hy : y ≤ m := by
          clear hx
          have : ∀ {ns : List Int} {z : Int}, greatest ns = some z → z ∈ ns := by
            intro ns
            induction ns with
            | nil => intro z e; cases e
            | cons a r ih =>
              intro z e
              unfold greatest at e
              cases e2 : greatest r with
              | none => rw [e2] at e; cases e; exact List.mem_cons_self
              | some w =>
                rw [e2] at e; cases e
                split
                · exact List.mem_cons_of_mem _ (ih e2)
                · exact List.mem_cons_self
          exact hle y (List.mem_cons_of_mem _ (this e1))
        rw [if_neg (by omega)]
      · have hy := greatest_is e1 hm' fun w hw => hle w (List.mem_cons_of_mem _ hw)
        subst hy
        split <;> omega
theorem least_is : ∀ {ns : List Int} {z m : Int}, least ns = some z → m ∈ ns → (∀ y ∈ ns, m ≤ y) → z = m
  | x :: xs, z, m, e, hm, hle => by
    unfold least at e
    cases e1 : least xs with
    | none =>
      rw [e1] at e; cases e
      have : xs = [] := by
        cases xs with
        | nil => rfl
        | cons a r => simp only [least] at e1; split at e1 <;> cases e1
      subst this
      exact (List.mem_singleton.mp hm).symm
    | some y =>
      rw [e1] at e; cases e
      have hx := hle x List.mem_cons_self
      rcases List.mem_cons.mp hm with rfl | hm'
      · have hy : m ≤ y := by
          clear hx
          have : ∀ {ns : List Int} {z : Int}, least ns = some z → z ∈ ns := by
            intro ns
            induction ns with
            | nil => intro z e; cases e
            | cons a r ih =>
              intro z e
              unfold least at e
              cases e2 : least r with
              | none => rw [e2] at e; cases e; exact List.mem_cons_self
              | some w =>
                rw [e2] at e; cases e
                split
                · exact List.mem_cons_of_mem _ (ih e2)
                · exact List.mem_cons_self
          exact hle y (List.mem_cons_of_mem _ (this e1))
        rw [if_neg (by omega)]
      · have hy := least_is e1 hm' fun w hw => hle w (List.mem_cons_of_mem _ hw)
        subst hy
        split <;> omega
theorem greatest_pos {ns : List Int} {z : Int} (e : greatest ns = some z) : 0 < ns.length := by
  cases ns with
  | nil => cases e
  | cons _ _ => simp
theorem least_pos {ns : List Int} {z : Int} (e : least ns = some z) : 0 < ns.length := by
  cases ns with
  | nil => cases e
  | cons _ _ => simp
def maxL : List D → Option D
  | [.lst xs] => ((intsD xs).bind greatest).map D.int
  | _ => none
def minL : List D → Option D
  | [.lst xs] => ((intsD xs).bind least).map D.int
  | _ => none
theorem rel_maxL {K : PySem.W.Frag} : RelC K (rMax K) maxL := fun m ca g S vs ds z Q _ hS r e k => by
  unfold maxL at e
  split at e
  · rename_i xs
    cases e1 : intsD xs with
    | none => rw [e1] at e; cases e
    | some bs =>
      rw [e1] at e
      cases e2 : greatest bs with
      | none => rw [Option.bind_some, e2] at e; cases e
      | some y =>
        rw [Option.bind_some, e2] at e; cases e
        obtain ⟨v, rfl, h⟩ := rba1 r
        obtain ⟨a, vs, rfl, h1, h2⟩ := h.lst hS
        cases ints_v h2 e1
        refine ⟨a, bs, rfl, SqL.of h1, greatest_pos e2, fun w hw hle => ?_⟩
        cases greatest_is e2 hw hle
        exact k g _ (Ext.refl _) hS (.int _)
  · cases e
theorem rel_minL {K : PySem.W.Frag} : RelC K (rMin K) minL := fun m ca g S vs ds z Q _ hS r e k => by
  unfold minL at e
  split at e
  · rename_i xs
    cases e1 : intsD xs with
    | none => rw [e1] at e; cases e
    | some bs =>
      rw [e1] at e
      cases e2 : least bs with
      | none => rw [Option.bind_some, e2] at e; cases e
      | some y =>
        rw [Option.bind_some, e2] at e; cases e
        obtain ⟨v, rfl, h⟩ := rba1 r
        obtain ⟨a, vs, rfl, h1, h2⟩ := h.lst hS
        cases ints_v h2 e1
        refine ⟨a, bs, rfl, SqL.of h1, least_pos e2, fun w hw hle => ?_⟩
        cases least_is e2 hw hle
        exact k g _ (Ext.refl _) hS (.int _)
  · cases e
theorem de_maxL {p : Pos} (hc : X.calm = true) (ha : DB m X W ca a fa) (hK : ca.K = X.K := by rfl) (hg : Gl X "max" := by rfl) (hm : X.mg "max" = none := by assumption) (hs : starEach [a] X.env = (false, eval a X.env) :: starEach [] X.env := by rfl) : DE m X W ca (.Call (.Name "max" p) [a] [] pos) (eCall maxL (aCons fa aNil)) :=
  de_fnB (cr_max hc) hK rel_maxL hg hm (by decide +kernel) (dab_cons ha dab_nil hs) (he := hs)
theorem de_minL {p : Pos} (hc : X.calm = true) (ha : DB m X W ca a fa) (hK : ca.K = X.K := by rfl) (hg : Gl X "min" := by rfl) (hm : X.mg "min" = none := by assumption) (hs : starEach [a] X.env = (false, eval a X.env) :: starEach [] X.env := by rfl) : DE m X W ca (.Call (.Name "min" p) [a] [] pos) (eCall minL (aCons fa aNil)) :=
  de_fnB (cr_min hc) hK rel_minL hg hm (by decide +kernel) (dab_cons ha dab_nil hs) (he := hs)

/-! ### isinstance(x, T) -/
def tyN : D → Option String
  | .non => some "NoneType" | .bl _ => some "bool" | .int _ => some "int" | .str _ => some "str"
  | .lst _ => some "list" | .tup _ => some "tuple" | .dct _ => some "dict"
  | .scr _ => none | .obj _ => none
def isiO (T : String) (a : En → M D) : En → M D := fun env => M.bind (a env) fun x => M.lift ((tyN x).bind fun t => (kitB t T).map D.bl)
theorem tyx_of {ca : Ct} {S : Store} {g : G} {K : PySem.W.Frag} (hS : SOk ca g S) {x : V} {d : D} {t : String} (r : Rb m g x d) (h : tyN d = some t) : TyX K g.H x (.type t) := by
  have r := r.h hS
  cases r with
  | non => cases h; exact .base .non
  | bl b => cases h; exact .base (.bl b)
  | int b => cases h; exact .base (.int b)
  | str b => cases h; exact .base (.str b)
  | lst e _ => cases h; exact .base (.lst e)
  | tup e _ => cases h; exact .base (.tup e)
  | dct e _ => cases h; exact .base (.dK e)
  | scr e => cases h
  | obj e => cases h
theorem de_isi (T : String) {x : Str} {p p2 : Pos} (ha : DB m X W ca a fa) (hv2 : bootBuiltins x = some (.type T)) (hg2 : Gl X x := by rfl) (hm2 : X.mg x = none := by assumption) (hn2 : x ≠ "__name__" := by decide) (hd2 : (x == ("__debug__" : Str)) = false := by decide)
    (hg : Gl X "isinstance" := by rfl) (hm : X.mg "isinstance" = none := by assumption) (hs : starEach [a, .Name x p2] X.env = (false, eval a X.env) :: starEach [.Name x p2] X.env := by rfl) (hs2 : starEach [.Name x p2] X.env = (false, eval (.Name x p2) X.env) :: starEach [] X.env := by rfl) (hpl : (backTo pos (starEach [.Name x p2] X.env)).any (·.1) = false := by rfl) :
    DE m X W ca (.Call (.Name "isinstance" p) [a, .Name x p2] [] pos) (isiO T fa) := by
  obtain ⟨t, pa, k⟩ := ha
  refine ⟨_, pe_callB call_isi hg hm PyProof.Rows.boot_isinstance (pa_cons pa (pa_cons (pe_bltn (v := .ty T) hg2 hm2 hv2 rfl hn2 hd2) pa_nil hs2) hs) (he := hs) (hpl := hpl), fun H0 g S σ env hS hE Q h => ?_⟩
  refine k H0 g S σ env hS hE _ (sat_mono (seqE h) (fun d S1 q g1 v e1 s1 r1 => ?_) fun _ _ q => q)
  obtain ⟨z, hz, q⟩ := sat_lift (q g1 e1)
  cases e2 : tyN d with
  | none => rw [e2] at hz; cases hz
  | some t =>
    rw [e2] at hz
    have hz : (kitB t T).map D.bl = some z := hz
    cases e3 : kitB t T with
    | none => rw [e3] at hz; cases hz
    | some b =>
      rw [e3] at hz; cases hz
      exact ⟨v, .ty T, .type t, .type T, b, rfl, .ty T, tyx_of s1 r1 e2, kit_ty e3, (show okE m ca g1 Q (.bl b) S1 from q) g1 _ (Ext.refl _) s1 (.bl b)⟩
end
end Dn

namespace Dn
open PySem L2

/-- as Ext, but the frame's own things may be written -/
structure Mo (m : Bool) (g g' : G) : Prop where
  same : Same g.F g'.F
  obs : PiLe g.p g'.p
  dom : ∀ b, g'.H b = none → g.H b = none
  pure : m = true → g'.p = g.p ∧ ∀ l a o, g.p l = some a → g.H a = some o → g'.H a = some o
theorem Mo.refl {m : Bool} (g : G) : Mo m g g := ⟨Same.refl _, PiLe.refl _, fun _ h => h, fun _ => ⟨rfl, fun _ _ _ _ h => h⟩⟩
theorem Ext.mo {m : Bool} {g g' : G} (e : Ext m g g') : Mo m g g' := ⟨e.same, e.obs, e.dom, e.pure⟩
theorem Mo.trans {m : Bool} {g g1 g2 : G} (a : Mo m g g1) (b : Mo m g1 g2) : Mo m g g2 :=
  ⟨a.same.trans b.same, a.obs.trans b.obs, fun c h => a.dom c (b.dom c h), fun h => by
    obtain ⟨p1, k1⟩ := a.pure h
    obtain ⟨p2, k2⟩ := b.pure h
    exact ⟨p2.trans p1, fun l c o x y => k2 l c o (by rw [p1]; exact x) (k1 l c o x y)⟩⟩
theorem Mo.rp {m : Bool} {g g' : G} (e : Mo m g g') {v : V} {d : D} (h : Rp g.F g.p v d) : Rp g'.F g'.p v d := Rp.mono e.same e.obs h
theorem Mo.rpA {m : Bool} {g g' : G} (e : Mo m g g') {v : List V} {d : List D} (h : RpA g.F g.p v d) : RpA g'.F g'.p v d := RpA.mono e.same e.obs h

/-! ### statements -/
inductive Fl where
  | nx (env : En) | rt (d : D) | rtO (xs : List D) | bk (env : En) | ct (env : En) | ex (c : Str) (env : En)
def okS (m : Bool) (ca : Ct) (W : WX) (g0 g : G) (D : Ends) : Fl → Store → Prop
  | .nx env, S' => ∀ g' σ', Ext m g0 g' → Mo m g g' → SOk ca g' S' → EnvOk g0.H g' σ' env → D.nx σ' g'.H
  | .bk env, S' => ∀ g' σ', Ext m g0 g' → Mo m g g' → SOk ca g' S' → EnvOk g0.H g' σ' env → D.bk σ' g'.H
  | .ct env, S' => ∀ g' σ', Ext m g0 g' → Mo m g g' → SOk ca g' S' → EnvOk g0.H g' σ' env → D.ct σ' g'.H
  | .rt d, S' => ∀ g' v, Ext m g0 g' → Mo m g g' → SOk ca g' S' → Rp g'.F g'.p v d → D.rt v g'.H
  | .rtO xs, S' => ∀ g' q vs, Ext m g0 g' → Mo m g g' → SOk ca g' S' → g0.H q = none → g'.H q = some (.lst vs) → g'.F q = none → (∀ l, g'.p l ≠ some q) → RpA g'.F g'.p vs xs → D.rt (.ref q) g'.H
  | .ex c env, S' => ∀ g' σ', Ext m g0 g' → Mo m g g' → SOk ca g' S' → EnvOk g0.H g' σ' env → W (.ref (ca c)) none σ' g'.H
theorem okS.mono {m : Bool} {ca : Ct} {W : WX} {g0 g g1 : G} {D : Ends} {S : Store} (e : Mo m g g1) : ∀ {f : Fl}, okS m ca W g0 g D f S → okS m ca W g0 g1 D f S
  | .nx env, h => fun g' σ' a b c d => h g' σ' a (e.trans b) c d
  | .bk env, h => fun g' σ' a b c d => h g' σ' a (e.trans b) c d
  | .ct env, h => fun g' σ' a b c d => h g' σ' a (e.trans b) c d
  | .rt d, h => fun g' σ' a b c d => h g' σ' a (e.trans b) c d
  | .rtO xs, h => fun g' q vs a b c d e1 f1 g1 h1 => h g' q vs a (e.trans b) c d e1 f1 g1 h1
  | .ex c env, h => fun g' σ' a b c d => h g' σ' a (e.trans b) c d
abbrev noX : Str → Store → Prop := fun _ _ => False
def DS (m : Bool) (X : Cx) (W : WX) (ca : Ct) (st : Stmt) (f : En → M Fl) : Prop :=
  ∃ t, PS X st t ∧ ∀ g0 g S σ env, Ext m g0 g → SOk ca g S → EnvOk g0.H g σ env → ∀ D : Ends, (f env S).sat (okS m ca W g0 g D) noX → t D σ g.H
def DSs (m : Bool) (X : Cx) (W : WX) (ca : Ct) (st : List Stmt) (f : En → M Fl) : Prop :=
  ∃ t, PSs X st t ∧ ∀ g0 g S σ env, Ext m g0 g → SOk ca g S → EnvOk g0.H g σ env → ∀ D : Ends, (f env S).sat (okS m ca W g0 g D) noX → t D σ g.H
/-- an expression within a statement -/
def liftS {α : Type} (c : M α) (env : En) (k : α → M Fl) : M Fl := fun S => match c S with
  | .ok a S' => k a S'
  | .exc x S' => .ok (.ex x env) S'
  | .bad => .bad
theorem sat_liftS {α : Type} {c : M α} {env : En} {k : α → M Fl} {S : Store} {P : Fl → Store → Prop} (h : (liftS c env k S).sat P noX) : (c S).sat (fun a S' => (k a S').sat P noX) (fun x S' => P (.ex x env) S') := by
  unfold liftS at h
  cases e : c S with
  | ok a S' => rw [e] at h; exact h
  | exc c S' => rw [e] at h; exact h
  | bad => rw [e] at h; exact h
section
variable {m : Bool} {X : Cx} {W : WX} {ca : Ct} {a b e : Expr} {fa fb : En → M D} {pos : Pos} {st : Stmt} {rest : List Stmt} {f r : En → M Fl}
theorem exE_of {g0 g : G} {S : Store} {σ : L2.St} {env : En} {D : Ends} {c : Str} (e0 : Ext m g0 g) (hE : EnvOk g0.H g σ env) (h : okS m ca W g0 g D (.ex c env) S) : exE m ca W g σ c S :=
  fun g' e s => h g' σ (e0.trans e) e.mo s (hE.ext e)
/-- the value, then what follows -/
theorem stE {α : Type} {c : M α} {env : En} {k : α → M Fl} {S : Store} {g0 g : G} {σ : L2.St} {D : Ends} (e0 : Ext m g0 g) (hE : EnvOk g0.H g σ env) (h : (liftS c env k S).sat (okS m ca W g0 g D) noX) :
    (c S).sat (fun a S' => ∀ g', Ext m g g' → (k a S').sat (okS m ca W g0 g' D) noX) (exE m ca W g σ) :=
  sat_mono (sat_liftS h) (fun a S' h g' e => sat_mono h (fun fl S2 q => q.mono e.mo) fun _ _ q => q) fun c S' q => exE_of e0 hE q
def sNil : En → M Fl := fun env => M.ret (.nx env)
def sCons (f r : En → M Fl) : En → M Fl := fun env => M.bind (f env) fun fl => match fl with
  | .nx env' => r env'
  | o => M.ret o
theorem dss_nil : DSs m X W ca [] sNil := ⟨_, pss_nil, fun g0 g S σ env e0 hS hE D h => h g σ e0 (Mo.refl g) hS hE⟩
theorem dss_cons (h1 : DS m X W ca st f) (h2 : DSs m X W ca rest r) : DSs m X W ca (st :: rest) (sCons f r) := by
  obtain ⟨t, p, k⟩ := h1
  obtain ⟨t2, p2, k2⟩ := h2
  refine ⟨_, pss_cons p p2, fun g0 g S σ env e0 hS hE D h => ?_⟩
  refine k g0 g S σ env e0 hS hE _ (sat_mono (sat_bind h) (fun fl S1 q => ?_) fun _ _ q => q)
  cases fl with
  | nx env' => exact fun g' σ' e1 mo s1 hE1 => k2 g0 g' S1 σ' env' e1 s1 hE1 D (sat_mono q (fun fl S2 q => q.mono mo) fun _ _ q => q)
  | rt d => exact q
  | rtO xs => exact q
  | bk env' => exact q
  | ct env' => exact q
  | ex c env' => exact q
theorem dss_one (h1 : DS m X W ca st f) : DSs m X W ca [st] f := by
  obtain ⟨t, p, k⟩ := h1
  exact ⟨_, pss_one p, k⟩
def sExpr (a : En → M D) : En → M Fl := fun env => liftS (a env) env fun _ => M.ret (.nx env)
theorem ds_expr (ha : DE m X W ca a fa) (hs : swapsWith a none pos.line X.env = pure false := by rfl) : DS m X W ca (.Expr a pos) (sExpr fa) := by
  obtain ⟨t, p, k⟩ := ha
  refine ⟨_, ps_expr p hs, fun g0 g S σ env e0 hS hE D h => ?_⟩
  exact k g0.H g S σ env hS hE _ (sat_mono (stE e0 hE h) (fun d S1 q g1 v e1 s1 r1 => (show okS m ca W g0 g1 D (.nx env) S1 from q g1 e1) g1 σ (e0.trans e1) (Mo.refl _) s1 (hE.ext e1)) fun _ _ q => q)
def sRet (a : En → M D) : En → M Fl := fun env => liftS (a env) env fun d => M.ret (.rt d)
theorem ds_ret (ha : DE m X W ca a fa) : DS m X W ca (.Return (some a) pos) (sRet fa) := by
  obtain ⟨t, p, k⟩ := ha
  refine ⟨_, ps_ret p, fun g0 g S σ env e0 hS hE D h => ?_⟩
  exact k g0.H g S σ env hS hE _ (sat_mono (stE e0 hE h) (fun d S1 q g1 v e1 s1 r1 => (show okS m ca W g0 g1 D (.rt d) S1 from q g1 e1) g1 v (e0.trans e1) (Mo.refl _) s1 r1) fun _ _ q => q)
def sRetO (a : En → M (List D)) : En → M Fl := fun env => liftS (a env) env fun d => M.ret (.rtO d)
theorem ds_retO {fo : En → M (List D)} (ha : DO m X W ca a fo) : DS m X W ca (.Return (some a) pos) (sRetO fo) := by
  obtain ⟨t, p, k⟩ := ha
  refine ⟨_, ps_ret p, fun g0 g S σ env e0 hS hE D h => ?_⟩
  exact k g0.H g S σ env hS hE _ (sat_mono (stE e0 hE h) (fun d S1 q g1 l vs e1 s1 n h1 h2 h3 r => (show okS m ca W g0 g1 D (.rtO d) S1 from q g1 e1) g1 l vs (e0.trans e1) (Mo.refl _) s1 (e0.dom _ n) h1 h2 h3 r) fun _ _ q => q)
/-- return x, a list of the frame's own -/
def sRetV (i : Nat) : En → M Fl := fun env => match env[i]? with
  | some (.f d) => M.ret (.rt d)
  | some (.o xs) => M.ret (.rtO xs)
  | _ => M.bad
theorem ds_retV (i : Nat) {x : Str} {p2 : Pos} (hN : X.N[i]? = some x := by rfl) (hv : Vis X.env.scope x := by first | exact Or.inl rfl | exact Or.inr (Or.inl rfl) | exact Or.inr (Or.inr rfl)) (hd : (x == ("__debug__" : Str)) = false := by decide)
    (hcd : (x == ("__classdict__" : Str)) = false := by decide) : DS m X W ca (.Return (some (.Name x p2)) pos) (sRetV i) := by
  refine ⟨_, ps_ret (pe_var hN hv hd hcd), fun g0 g S σ env e0 hS hE D h => ?_⟩
  unfold sRetV at h
  cases e : env[i]? with
  | none => rw [e] at h; exact h.elim
  | some w =>
    rw [e] at h
    obtain ⟨v, h1, h2⟩ := hE.get e
    cases w with
    | u => exact h.elim
    | k _ => exact h.elim
    | f d =>
      obtain ⟨w, rfl, q⟩ := h2
      exact ⟨w, h1, (show okS m ca W g0 g D (.rt d) S from h) g w e0 (Mo.refl _) hS q⟩
    | o xs =>
      obtain ⟨l, vs, rfl, q1, q2, q3⟩ := h2
      exact ⟨_, h1, (show okS m ca W g0 g D (.rtO xs) S from h) g l vs e0 (Mo.refl _) hS q3.new q1 q3.out q3.nop q2⟩
def sRetN : En → M Fl := fun env => M.ret (.rt .non)
theorem ds_retN : DS m X W ca (.Return none pos) sRetN := ⟨_, ps_retN, fun g0 g S σ env e0 hS hE D h => h g _ e0 (Mo.refl _) hS .non⟩
def sIf (c : En → M Bool) (t u : En → M Fl) : En → M Fl := fun env => liftS (c env) env fun b => if b = true then t env else u env
theorem ds_if {c : Expr} {x y : List Stmt} {fc : En → M Bool} {t u : En → M Fl} (hc : DT m X W ca c fc) (hx : DSs m X W ca x t) (hy : DSs m X W ca y u) : DS m X W ca (.If c x y pos) (sIf fc t u) := by
  obtain ⟨t1, p1, k1⟩ := hc
  obtain ⟨t2, p2, k2⟩ := hx
  obtain ⟨t3, p3, k3⟩ := hy
  refine ⟨_, ps_if p1 p2 p3, fun g0 g S σ env e0 hS hE D h => ?_⟩
  refine k1 g0.H g S σ env hS hE _ (sat_mono (stE e0 hE h) (fun b S1 q g1 e1 s1 => ?_) fun _ _ q => q)
  have q := q g1 e1
  cases b with
  | true => exact k2 g0 g1 S1 σ env (e0.trans e1) s1 (hE.ext e1) D q
  | false => exact k3 g0 g1 S1 σ env (e0.trans e1) s1 (hE.ext e1) D q
theorem ds_pass : DS m X W ca (.Pass pos) sNil := ⟨_, ps_pass, fun g0 g S σ env e0 hS hE D h => h g σ e0 (Mo.refl g) hS hE⟩
def sBrk : En → M Fl := fun env => M.ret (.bk env)
theorem ds_break : DS m X W ca (.Break pos) sBrk := ⟨_, ps_break, fun g0 g S σ env e0 hS hE D h => h g σ e0 (Mo.refl g) hS hE⟩
def sCnt : En → M Fl := fun env => M.ret (.ct env)
theorem ds_cont : DS m X W ca (.Continue pos) sCnt := ⟨_, ps_continue, fun g0 g S σ env e0 hS hE D h => h g σ e0 (Mo.refl g) hS hE⟩
theorem ds_doc {x : Str} {j : Nat} {p2 : Pos} : DS m X W ca (.Expr (.Constant (.str x) j p2) pos) sNil := ⟨_, ps_doc, fun g0 g S σ env e0 hS hE D h => h g σ e0 (Mo.refl g) hS hE⟩

/-! ### stores to names -/
def sSet (i : Nat) (a : En → M D) : En → M Fl := fun env => liftS (a env) env fun d => M.ret (.nx (env.set i (.f d)))
theorem ds_set {x : Str} {p2 : Pos} (i : Nat) (hN : X.N.Nodup) (hi : X.N[i]? = some x) (hx : L2.Loc X.env.scope x) (ha : DE m X W ca a fa) (hs : swapsWith a (some (.Name x p2)) pos.line X.env = pure false := by rfl)
    (hf : X.fn x = true ∨ X.env.scope.names.lookup x = some .local := by first | exact .inl rfl | exact .inr rfl | assumption) : DS m X W ca (.Assign [.Name x p2] a pos) (sSet i fa) := by
  obtain ⟨t, p, k⟩ := ha
  refine ⟨_, ps_set hN hi hx p hs hf, fun g0 g S σ env e0 hS hE D h => ?_⟩
  exact k g0.H g S σ env hS hE _ (sat_mono (stE e0 hE h) (fun d S1 q g1 v e1 s1 r1 => (show okS m ca W g0 g1 D (.nx (env.set i (.f d))) S1 from q g1 e1) g1 _ (e0.trans e1) (Mo.refl _) s1 ((hE.ext e1).set i r1)) fun _ _ q => q)
/-- a slot takes what is the frame's own -/
theorem EnvOk.setO {H0 : Hp} {g : G} {σ : L2.St} {env : En} (h : EnvOk H0 g σ env) (i : Nat) {q : Addr} {w : EV} (hw : EvOk H0 g (some (.ref q)) w) (new : ∀ (j : Nat) (w' : EV), σ[j]? = some (some (.ref q)) → env[j]? = some w' → w'.own = true → j = i) : EnvOk H0 g (σ.set i (some (.ref q))) (env.set i w) := by
  refine ⟨by simp [h.len], fun j x y a b => ?_, fun j k x y y' ne a b c d' o o' => ?_⟩
  · by_cases hj : i = j
    · subst hj
      have hi : i < env.length := by
        have := (List.getElem?_eq_some_iff.mp b).1
        simpa using this
      rw [List.getElem?_set_self hi] at b
      rw [List.getElem?_set_self (by rw [h.len]; exact hi)] at a
      cases a; cases b
      exact hw
    · rw [List.getElem?_set_ne hj] at a b
      exact h.at_ j x y a b
  · by_cases hj : i = j
    · subst hj
      by_cases hk : i = k
      · exact ne hk
      · have hi : i < env.length := by
          have := (List.getElem?_eq_some_iff.mp c).1
          simpa using this
        rw [List.getElem?_set_self (by rw [h.len]; exact hi)] at a
        rw [List.getElem?_set_ne hk] at b d'
        cases a
        exact hk (new k y' b d' o').symm
    · by_cases hk : i = k
      · subst hk
        have hi : i < env.length := by
          have := (List.getElem?_eq_some_iff.mp d').1
          simpa using this
        rw [List.getElem?_set_self (by rw [h.len]; exact hi)] at b
        rw [List.getElem?_set_ne hj] at a c
        cases b
        exact hj (new j y a c o).symm
      · rw [List.getElem?_set_ne hj] at a c
        rw [List.getElem?_set_ne hk] at b d'
        exact h.apart j k x y y' ne a b c d' o o'
theorem EnvOk.fresh {H0 : Hp} {g : G} {σ : L2.St} {env : En} (h : EnvOk H0 g σ env) {q : Addr} (n : g.H q = none) (j : Nat) (w : EV) (a : σ[j]? = some (some (.ref q))) (b : env[j]? = some w) (o : w.own = true) : False := by
  have r := h.at_ j _ w a b
  cases w with
  | u => cases o
  | f d => cases o
  | o xs => obtain ⟨l, vs, e, h1, _⟩ := r; cases e; rw [n] at h1; cases h1
  | k xs => obtain ⟨l, vs, e, h1, _⟩ := r; cases e; rw [n] at h1; cases h1
def sSetO (i : Nat) (a : En → M (List D)) : En → M Fl := fun env => liftS (a env) env fun d => M.ret (.nx (env.set i (.o d)))
theorem setO_ok {t : TE} {fo : En → M (List D)} {i : Nat} (k : ∀ H0 g S σ env, SOk ca g S → EnvOk H0 g σ env → ∀ Q : VK, (fo env S).sat (okO m ca g Q) (exE m ca W g σ) → t σ g.H Q) :
    ∀ g0 g S σ env, Ext m g0 g → SOk ca g S → EnvOk g0.H g σ env → ∀ D : Ends, (sSetO i fo env S).sat (okS m ca W g0 g D) noX → tAsg t (gName i) D σ g.H := fun g0 g S σ env e0 hS hE D h => by
  refine k g0.H g S σ env hS hE _ (sat_mono (stE e0 hE h) (fun d S1 q g1 l vs e1 s1 n h1 h2 h3 r => ?_) fun _ _ q => q)
  refine (show okS m ca W g0 g1 D (.nx (env.set i (.o d))) S1 from q g1 e1) g1 _ (e0.trans e1) (Mo.refl _) s1 ((hE.ext e1).setO i ⟨l, vs, rfl, h1, r, h2, h3, e0.dom _ n⟩ fun j w' a b o => ?_)
  exact (hE.fresh n j w' a b o).elim
theorem ds_setO {x : Str} {p2 : Pos} {fo : En → M (List D)} (i : Nat) (hN : X.N.Nodup) (hi : X.N[i]? = some x) (hx : L2.Loc X.env.scope x) (ha : DO m X W ca a fo) (hs : swapsWith a (some (.Name x p2)) pos.line X.env = pure false := by rfl)
    (hf : X.fn x = true ∨ X.env.scope.names.lookup x = some .local := by first | exact .inl rfl | exact .inr rfl | assumption) : DS m X W ca (.Assign [.Name x p2] a pos) (sSetO i fo) := by
  obtain ⟨t, p, k⟩ := ha
  exact ⟨_, ps_set hN hi hx p hs hf, setO_ok k⟩
/-- the frame's own list in slot i becomes data -/
def fzE (i : Nat) (env : En) : En := match env[i]? with
  | some (.o xs) => env.set i (.f (.lst xs))
  | some (.k xs) => env.set i (.f (.dct xs))
  | _ => env
def sFz (i : Nat) (f : En → M Fl) : En → M Fl := fun env => f (fzE i env)
theorem fz_ok {g0 g : G} {S : Store} {σ : L2.St} {env : En} (i : Nat) (e0 : Ext m g0 g) (hS : SOk ca g S) (hE : EnvOk g0.H g σ env) : ∃ g', g'.H = g.H ∧ Ext m g0 g' ∧ Mo m g g' ∧ SOk ca g' S ∧ EnvOk g0.H g' σ (fzE i env) := by
  have key : ∀ (q : Addr) (o : HO) (d : D) (w : EV), env[i]? = some w → w.own = true → σ[i]? = some (some (.ref q)) → g.H q = some o → OwnAt g0.H g q → Rp (upd g.F q o) g.p (.ref q) d →
      ∃ g', g'.H = g.H ∧ Ext m g0 g' ∧ Mo m g g' ∧ SOk ca g' S ∧ EnvOk g0.H g' σ (env.set i (.f d)) := fun q o d w ew ow es hq hn hr => by
    have sm : Same g.F (g.fr q o).F := Same.upF hn.out
    refine ⟨g.fr q o, rfl, ext_fr e0 hn.new hn.out, ⟨sm, PiLe.refl _, fun _ h => h, fun _ => ⟨rfl, fun _ _ _ _ h => h⟩⟩, sok_fr hS hq hn.out hn.nop, ?_⟩
    have hi : i < env.length := (List.getElem?_eq_some_iff.mp ew).1
    refine ⟨by simp [hE.len], fun j x y a b => ?_, fun j k x y y' ne a b c d' o1 o2 => ?_⟩
    · by_cases hj : i = j
      · subst hj
        rw [List.getElem?_set_self hi] at b
        cases b
        rw [es] at a; cases a
        exact ⟨_, rfl, hr⟩
      · rw [List.getElem?_set_ne hj] at b
        have z := hE.at_ j x y a b
        have keep : ∀ l, y.own = true → x = some (.ref l) → l ≠ q := fun l oy ex z => by
          subst z; subst ex
          exact hE.apart i j _ w y hj es a ew b ow oy
        cases y with
        | u => trivial
        | f d => obtain ⟨v, h1, h2⟩ := z; exact ⟨v, h1, Rp.mono sm (PiLe.refl _) h2⟩
        | o xs =>
          obtain ⟨l, vs, h1, h2, h3, h4⟩ := z
          refine ⟨l, vs, h1, h2, RpA.mono sm (PiLe.refl _) h3, ?_, h4.nop, h4.new⟩
          show upd g.F q o l = none
          rw [upd_ne (keep l rfl h1)]; exact h4.out
        | k xs =>
          obtain ⟨l, vs, h1, h2, h3, h4⟩ := z
          refine ⟨l, vs, h1, h2, RpK.mono sm (PiLe.refl _) h3, ?_, h4.nop, h4.new⟩
          show upd g.F q o l = none
          rw [upd_ne (keep l rfl h1)]; exact h4.out
    · have nj : i ≠ j := fun z => by
        subst z
        rw [List.getElem?_set_self hi] at c
        cases c; cases o1
      have nk : i ≠ k := fun z => by
        subst z
        rw [List.getElem?_set_self hi] at d'
        cases d'; cases o2
      rw [List.getElem?_set_ne nj] at c
      rw [List.getElem?_set_ne nk] at d'
      exact hE.apart j k x y y' ne a b c d' o1 o2
  have same : ∃ g', g'.H = g.H ∧ Ext m g0 g' ∧ Mo m g g' ∧ SOk ca g' S ∧ EnvOk g0.H g' σ env := ⟨g, rfl, e0, Mo.refl _, hS, hE⟩
  unfold fzE
  cases e : env[i]? with
  | none => exact same
  | some w =>
    cases w with
    | u => exact same
    | f d => exact same
    | o xs =>
      obtain ⟨v, h1, q, vs, rfl, h3, h4, h5⟩ := hE.get e
      exact key q _ _ _ e rfl h1 h3 h5 (rp_lst h5.out h4)
    | k xs =>
      obtain ⟨v, h1, q, vs, rfl, h3, h4, h5⟩ := hE.get e
      exact key q _ _ _ e rfl h1 h3 h5 (rp_dct h5.out h4)
theorem dss_fz (i : Nat) {sts : List Stmt} (h : DSs m X W ca sts f) : DSs m X W ca sts (sFz i f) := by
  obtain ⟨t, p, k⟩ := h
  refine ⟨t, p, fun g0 g S σ env e0 hS hE D h => ?_⟩
  obtain ⟨g', h1, h2, h3, h4, h5⟩ := fz_ok i e0 hS hE
  rw [← h1]
  exact k g0 g' S σ _ h2 h4 h5 D (sat_mono h (fun _ _ q => q.mono h3) fun _ _ q => q)
end
end Dn

namespace Dn
open PySem L2

/-! ### what is walked -/
def Rq (q m : Bool) (g g' : G) : Prop := match q with
  | true => Mo m g g'
  | false => Ext m g g'
theorem Rq.mo {q m : Bool} {g g' : G} (h : Rq q m g g') : Mo m g g' := by
  cases q with
  | true => exact h
  | false => exact Ext.mo h
def ItOk (q m : Bool) (ca : Ct) (g : G) (J : It) (ds : List D) : Prop :=
  ∀ g' S, Rq q m g g' → SOk ca g' S → ∀ i, (∀ d, ds[i]? = some d → J.go i g'.H ∧ ∀ x H', J.yld i g'.H x H' → H' = g'.H ∧ Rp g'.F g'.p x d) ∧ (ds.length ≤ i → J.stop i g'.H)
def DI (q m : Bool) (X : Cx) (W : WX) (ca : Ct) (e : Expr) (f : En → M (List D)) : Prop :=
  ∃ wi : TI, (∀ tg, PI X tg e wi) ∧ ∀ H0 g S σ env, SOk ca g S → EnvOk H0 g σ env → ∀ R : It → Hp → Prop,
    (f env S).sat (fun ds S' => ∀ g' J, Ext m g g' → SOk ca g' S' → ItOk q m ca g' J ds → R J g'.H) (exE m ca W g σ) → wi σ g.H R
theorem itl_ok {q m : Bool} {ca : Ct} {K : PySem.W.Frag} {g : G} {a : Addr} {vs : List V} {ds : List D} (h : ∀ g' S, Rq q m g g' → SOk ca g' S → SqL K g'.H a vs) (r : RpA g.F g.p vs ds) : ItOk q m ca g (Itl K a) ds := fun g' S e hS i => by
  have h' := h g' S e hS
  have r' := e.mo.rpA r
  refine ⟨fun d hd => ?_, fun hl => ⟨vs, h', by rw [r'.length]; exact hl⟩⟩
  obtain ⟨v, h1, h2⟩ := r'.get i hd
  refine ⟨⟨vs, v, h', h1⟩, fun x H' y => ?_⟩
  obtain ⟨y1, y2⟩ := y
  have := y2 vs h'
  rw [h1] at this; cases this
  exact ⟨y1, h2⟩
theorem itt_ok {q m : Bool} {ca : Ct} {K : PySem.W.Frag} {g : G} {a : Addr} {vs : List V} {ds : List D} (h : g.F a = some (.tup vs)) (r : RpA g.F g.p vs ds) : ItOk q m ca g (Itt K a) ds := fun g' S e hS i => by
  have h' : SqT K g'.H a vs := SqT.of (hS.same _ _ (e.mo.same _ _ h))
  have r' := e.mo.rpA r
  refine ⟨fun d hd => ?_, fun hl => ⟨vs, h', by rw [r'.length]; exact hl⟩⟩
  obtain ⟨v, h1, h2⟩ := r'.get i hd
  refine ⟨⟨vs, v, h', h1⟩, fun x H' y => ?_⟩
  obtain ⟨y1, y2⟩ := y
  have := y2 vs h'
  rw [h1] at this; cases this
  exact ⟨y1, h2⟩
def rng (lo : Int) (n : Nat) : List D := (List.range n).map fun i => .int (lo + (i : Nat))
def rngC (lo c : Int) (n : Nat) : List D := (List.range n).map fun i => .int (lo + (i : Nat) * c)
theorem rng_get {lo : Int} {n i : Nat} {d : D} (h : (rng lo n)[i]? = some d) : i < n ∧ d = .int (lo + (i : Nat)) := by
  unfold rng at h
  rw [List.getElem?_map] at h
  by_cases hi : i < n
  · rw [List.getElem?_range hi] at h; cases h; exact ⟨hi, rfl⟩
  · rw [List.getElem?_eq_none (by simpa using hi)] at h; cases h
theorem rngC_get {lo c : Int} {n i : Nat} {d : D} (h : (rngC lo c n)[i]? = some d) : i < n ∧ d = .int (lo + (i : Nat) * c) := by
  unfold rngC at h
  rw [List.getElem?_map] at h
  by_cases hi : i < n
  · rw [List.getElem?_range hi] at h; cases h; exact ⟨hi, rfl⟩
  · rw [List.getElem?_eq_none (by simpa using hi)] at h; cases h
theorem itr_ok {q m : Bool} {ca : Ct} {g : G} {lo : Int} {n : Nat} : ItOk q m ca g (Itr lo n) (rng lo n) := fun g' S e hS i => by
  refine ⟨fun d hd => ?_, fun hl => show n ≤ i by simpa [rng] using hl⟩
  obtain ⟨h1, rfl⟩ := rng_get hd
  refine ⟨h1, fun x H' y => ?_⟩
  obtain ⟨y1, rfl⟩ := y
  exact ⟨y1, .int _⟩
theorem itc_ok {q m : Bool} {ca : Ct} {g : G} {lo c : Int} {n : Nat} : ItOk q m ca g (Itc lo c n) (rngC lo c n) := fun g' S e hS i => by
  refine ⟨fun d hd => ?_, fun hl => show n ≤ i by simpa [rngC] using hl⟩
  obtain ⟨h1, rfl⟩ := rngC_get hd
  refine ⟨h1, fun x H' y => ?_⟩
  obtain ⟨y1, rfl⟩ := y
  exact ⟨y1, .int _⟩
def signsD (s : Str) : List D := s.cps.toList.map fun c => .str ⟨#[c]⟩
theorem its_ok {q m : Bool} {ca : Ct} {g : G} {s : Str} : ItOk q m ca g (Its s) (signsD s) := fun g' S e hS i => by
  refine ⟨fun d hd => ?_, fun hl => show s.cps.size ≤ i by simpa [signsD] using hl⟩
  unfold signsD at hd
  rw [List.getElem?_map] at hd
  cases e1 : s.cps.toList[i]? with
  | none => rw [e1] at hd; cases hd
  | some c =>
    rw [e1] at hd; cases hd
    have e2 : s.cps[i]? = some c := by simpa using e1
    refine ⟨(Array.getElem?_eq_some_iff.mp e2).1, fun x H' y => ?_⟩
    obtain ⟨y1, c', h1, rfl⟩ := y
    rw [e2] at h1; cases h1
    exact ⟨y1, .str _⟩
section
variable {q m : Bool} {X : Cx} {W : WX} {ca : Ct} {a b c e : Expr} {fa fb fc : En → M D} {pos : Pos}
def iL (a : En → M D) : En → M (List D) := fun env => M.bind (a env) fun x => match x with
  | .lst xs => M.ret xs
  | .scr ns => M.ret (ns.map D.int)
  | _ => M.bad
theorem seqI {α β : Type} {c : M α} {k : α → M β} {S : Store} {g : G} {σ : L2.St} {P : G → β → Store → Prop} (hP : ∀ g g' a S, Ext m g g' → P g a S → P g' a S) (h : (M.bind c k S).sat (P g) (exE m ca W g σ)) :
    (c S).sat (fun a S' => ∀ g', Ext m g g' → (k a S').sat (P g') (exE m ca W g' σ)) (exE m ca W g σ) :=
  sat_mono (sat_bind h) (fun a S' h g' e => sat_mono h (fun d S2 q => hP _ _ _ _ e q) fun c S2 q => q.mono e) fun _ _ q => q
abbrev itP (q m : Bool) (ca : Ct) (R : It → Hp → Prop) : G → List D → Store → Prop := fun g ds S' => ∀ g' J, Ext m g g' → SOk ca g' S' → ItOk q m ca g' J ds → R J g'.H
theorem itP.mono {R : It → Hp → Prop} : ∀ g g' (ds : List D) S, Ext m g g' → itP q m ca R g ds S → itP q m ca R g' ds S := fun g g' ds S e h g2 J e2 => h g2 J (e.trans e2)
theorem di_list (ha : DE m X W ca a fa) (hK : ca.K = X.K := by rfl) : DI q m X W ca a (iL fa) := by
  obtain ⟨t, p, k⟩ := ha
  refine ⟨_, fun tg => pi_list p, fun H0 g S σ env hS hE R h => ?_⟩
  refine k H0 g S σ env hS hE _ (sat_mono (seqI (P := itP q m ca R) itP.mono h) (fun x S1 z g1 v e1 s1 r1 => ?_) fun _ _ q => q)
  have z := z g1 e1
  cases r1 with
  | lst h1 t1 => exact ⟨_, rfl, ⟨_, SqL.of (s1.same _ _ h1)⟩, (show itP q m ca R g1 _ S1 from z) g1 _ (Ext.refl _) s1 (itl_ok (fun g' S e hS => SqL.of (hS.same _ _ (e.mo.same _ _ h1))) t1)⟩
  | scr h1 =>
    have hq := (s1.sc _ _ h1).sq
    rw [hK] at hq
    exact ⟨_, rfl, ⟨_, hq⟩, (show itP q m ca R g1 _ S1 from z) g1 _ (Ext.refl _) s1 (itl_ok (fun g' S e hS => by rw [← hK]; exact (hS.sc _ _ (e.mo.obs.2 _ _ h1)).sq) (RpA.ints _))⟩
  | _ => exact z.elim
/-- a list that is read for now: for comprehensions -/
theorem di_listB (ha : DB m X W ca a fa) (hK : ca.K = X.K := by rfl) : DI false m X W ca a (iL fa) := by
  obtain ⟨t, p, k⟩ := ha
  refine ⟨_, fun tg => pi_list p, fun H0 g S σ env hS hE R h => ?_⟩
  refine k H0 g S σ env hS hE _ (sat_mono (seqI (P := itP false m ca R) itP.mono h) (fun x S1 z g1 v e1 s1 r1 => ?_) fun _ _ q => q)
  have z := z g1 e1
  cases x with
  | lst xs =>
    obtain ⟨a, vs, rfl, h1, h2⟩ := r1.lst s1
    refine ⟨a, rfl, ⟨vs, SqL.of h1⟩, (show itP false m ca R g1 xs S1 from z) g1 _ (Ext.refl _) s1 (itl_ok (fun g' S e hS => ?_) h2)⟩
    have e : Ext m g1 g' := e
    rcases r1 with r1 | ⟨q, vs', xs', h3, h4, h5, h6, h7⟩ | ⟨_, _, _, _, h4, _⟩
    · cases r1 with
      | lst y1 y2 =>
        have := s1.same _ _ y1
        rw [h1] at this; cases this
        exact SqL.of (hS.same _ _ (e.same _ _ y1))
    · cases h3; cases h4
      rw [h1] at h5; cases h5
      exact SqL.of (h6.ext h1 hS.out e).2
    · cases h4
  | scr ns =>
    have r := r1.h s1
    rcases r1 with r1 | ⟨_, _, _, _, h, _⟩ | ⟨_, _, _, _, h, _⟩
    · cases r1 with
      | scr h1 =>
        have hq := (s1.sc _ _ h1).sq
        rw [hK] at hq
        exact ⟨_, rfl, ⟨_, hq⟩, (show itP false m ca R g1 _ S1 from z) g1 _ (Ext.refl _) s1 (itl_ok (fun g' S e hS => by rw [← hK]; exact (hS.sc _ _ ((Rq.mo e).obs.2 _ _ h1)).sq) (RpA.ints _))⟩
    · cases h
    · cases h
  | _ => exact z.elim
def iT (a : En → M D) : En → M (List D) := fun env => M.bind (a env) fun x => match x with
  | .tup xs => M.ret xs
  | _ => M.bad
theorem di_tup (ha : DE m X W ca a fa) : DI q m X W ca a (iT fa) := by
  obtain ⟨t, p, k⟩ := ha
  refine ⟨_, fun tg => pi_tup p, fun H0 g S σ env hS hE R h => ?_⟩
  refine k H0 g S σ env hS hE _ (sat_mono (seqI (P := itP q m ca R) itP.mono h) (fun x S1 z g1 v e1 s1 r1 => ?_) fun _ _ q => q)
  have z := z g1 e1
  cases r1 with
  | tup h1 t1 => exact ⟨_, rfl, ⟨_, SqT.of (s1.same _ _ h1)⟩, (show itP q m ca R g1 _ S1 from z) g1 _ (Ext.refl _) s1 (itt_ok h1 t1)⟩
  | _ => exact z.elim
def iS (a : En → M D) : En → M (List D) := fun env => M.bind (a env) fun x => match x with
  | .str s => M.ret (signsD s)
  | _ => M.bad
theorem di_str (ha : DE m X W ca a fa) : DI q m X W ca a (iS fa) := by
  obtain ⟨t, p, k⟩ := ha
  refine ⟨_, fun tg => pi_str p, fun H0 g S σ env hS hE R h => ?_⟩
  refine k H0 g S σ env hS hE _ (sat_mono (seqI (P := itP q m ca R) itP.mono h) (fun x S1 z g1 v e1 s1 r1 => ?_) fun _ _ q => q)
  have z := z g1 e1
  cases r1 with
  | str s => exact ⟨s, rfl, (show itP q m ca R g1 _ S1 from z) g1 _ (Ext.refl _) s1 its_ok⟩
  | _ => exact z.elim
def iR1 (a : En → M D) : En → M (List D) := fun env => M.bind (a env) fun x => match x with
  | .int n => if -1000000 ≤ n ∧ n ≤ 1000000 then M.ret (rng 0 n.toNat) else M.bad
  | _ => M.bad
def iR2 (a b : En → M D) : En → M (List D) := fun env => M.bind (a env) fun x => M.bind (b env) fun y => match x, y with
  | .int i, .int j => if -1000000 ≤ i ∧ i ≤ 1000000 ∧ -1000000 ≤ j ∧ j ≤ 1000000 then M.ret (rng i (j - i).toNat) else M.bad
  | _, _ => M.bad
theorem di_range1 {p : Pos} (ha : DE m X W ca a fa) (hg : Gl X "range" := by rfl) (hm : X.mg "range" = none := by assumption) (hs : starEach [a] X.env = [(false, eval a X.env)] := by rfl) : DI q m X W ca (.Call (.Name "range" p) [a] [] pos) (iR1 fa) := by
  obtain ⟨t, pa, k⟩ := ha
  refine ⟨_, fun tg => pi_range1 hg hm (pa_cons pa pa_nil hs) hs, fun H0 g S σ env hS hE R h => ?_⟩
  refine k H0 g S σ env hS hE _ (sat_mono (seqI (P := itP q m ca R) itP.mono h) (fun x S1 z g1 v e1 s1 r1 => ?_) fun _ _ q => q)
  have z := z g1 e1
  cases x with
  | int n =>
    cases r1
    dsimp only at z
    by_cases c : -1000000 ≤ n ∧ n ≤ 1000000
    · rw [if_pos c] at z
      exact ⟨n, rfl, by omega, by omega, (show itP q m ca R g1 _ S1 from z) g1 _ (Ext.refl _) s1 itr_ok⟩
    · rw [if_neg c] at z; exact z.elim
  | _ => exact z.elim
theorem di_range2 {p : Pos} (ha : DE m X W ca a fa) (hb : DE m X W ca b fb) (hg : Gl X "range" := by rfl) (hm : X.mg "range" = none := by assumption) (hs : starEach [a, b] X.env = [(false, eval a X.env), (false, eval b X.env)] := by rfl) (hs2 : starEach [b] X.env = [(false, eval b X.env)] := by rfl) :
    DI q m X W ca (.Call (.Name "range" p) [a, b] [] pos) (iR2 fa fb) := by
  obtain ⟨t, pa, k⟩ := ha
  obtain ⟨t2, pb, k2⟩ := hb
  refine ⟨_, fun tg => pi_range2 hg hm (pa_cons pa (pa_cons pb pa_nil hs2) (by rw [hs, hs2])) hs hs2, fun H0 g S σ env hS hE R h => ?_⟩
  refine k H0 g S σ env hS hE _ (sat_mono (seqI (P := itP q m ca R) itP.mono h) (fun x S1 z g1 v e1 s1 r1 => ?_) fun _ _ q => q)
  refine k2 H0 g1 S1 σ env s1 (hE.ext e1) _ (sat_mono (seqI (P := itP q m ca R) itP.mono (z g1 e1)) (fun y S2 z g2 u e2 s2 r2 => ?_) fun _ _ q => q)
  have z := z g2 e2
  cases x with
  | int i =>
    cases y with
    | int j =>
      cases r1; cases r2
      dsimp only at z
      by_cases c : -1000000 ≤ i ∧ i ≤ 1000000 ∧ -1000000 ≤ j ∧ j ≤ 1000000
      · rw [if_pos c] at z
        exact ⟨i, j, rfl, by omega, (show itP q m ca R g2 _ S2 from z) g2 _ (Ext.refl _) s2 itr_ok⟩
      · rw [if_neg c] at z; exact z.elim
    | _ => exact z.elim
  | _ => exact z.elim
def iR3 (a b c : En → M D) : En → M (List D) := fun env => M.bind (a env) fun x => M.bind (b env) fun y => M.bind (c env) fun z => match x, y, z with
  | .int i, .int j, .int k => if k ≠ 0 ∧ k.natAbs < 1073741824 ∧ Builtin.Range.small i j k = true ∧ 0 ≤ Builtin.Range.rangeSize i j k then M.ret (rngC i k (Builtin.Range.rangeSize i j k).toNat) else M.bad
  | _, _, _ => M.bad
theorem di_range3 {p : Pos} (ha : DE m X W ca a fa) (hb : DE m X W ca b fb) (hc : DE m X W ca c fc) (hg : Gl X "range" := by rfl) (hm : X.mg "range" = none := by assumption) (hs : starEach [a, b, c] X.env = (false, eval a X.env) :: starEach [b, c] X.env := by rfl) (hs2 : starEach [b, c] X.env = (false, eval b X.env) :: starEach [c] X.env := by rfl) (hs3 : starEach [c] X.env = (false, eval c X.env) :: starEach [] X.env := by rfl)
    (hpi : ∀ (tg : Expr) (ta : TA), PA X [a, b, c] ta → PI X tg (.Call (.Name "range" p) [a, b, c] [] pos) (iRng3 ta) := by exact fun _ _ h => pi_range3 (by rfl) (by assumption) h) :
    DI q m X W ca (.Call (.Name "range" p) [a, b, c] [] pos) (iR3 fa fb fc) := by
  obtain ⟨t, pa, k⟩ := ha
  obtain ⟨t2, pb, k2⟩ := hb
  obtain ⟨t3, pc, k3⟩ := hc
  refine ⟨_, fun tg => hpi tg _ (pa_cons pa (pa_cons pb (pa_cons pc pa_nil hs3) hs2) hs), fun H0 g S σ env hS hE R h => ?_⟩
  refine k H0 g S σ env hS hE _ (sat_mono (seqI (P := itP q m ca R) itP.mono h) (fun x S1 z g1 v e1 s1 r1 => ?_) fun _ _ q => q)
  refine k2 H0 g1 S1 σ env s1 (hE.ext e1) _ (sat_mono (seqI (P := itP q m ca R) itP.mono (z g1 e1)) (fun y S2 z g2 u e2 s2 r2 => ?_) fun _ _ q => q)
  refine k3 H0 g2 S2 σ env s2 (hE.ext (e1.trans e2)) _ (sat_mono (seqI (P := itP q m ca R) itP.mono (z g2 e2)) (fun w S3 z g3 u3 e3 s3 r3 => ?_) fun _ _ q => q)
  have z := z g3 e3
  cases x with
  | int i =>
    cases y with
    | int j =>
      cases w with
      | int l =>
        cases r1; cases r2; cases r3
        dsimp only at z
        by_cases c : l ≠ 0 ∧ l.natAbs < 1073741824 ∧ Builtin.Range.small i j l = true ∧ 0 ≤ Builtin.Range.rangeSize i j l
        · rw [if_pos c] at z
          exact ⟨i, j, l, (Builtin.Range.rangeSize i j l).toNat, rfl, ⟨c.1, c.2.1, c.2.2.1, by omega⟩, (show itP q m ca R g3 _ S3 from z) g3 _ (Ext.refl _) s3 itc_ok⟩
        · rw [if_neg c] at z; exact z.elim
      | _ => exact z.elim
    | _ => exact z.elim
  | _ => exact z.elim
end

/-! ### targets -/
theorem wipe_at {σ : L2.St} {i : Nat} : ∀ {vs : List Nat}, i ∈ vs → i < σ.length → (wipe σ vs)[i]? = some none
  | v :: vs, h, hi => by
    unfold wipe
    by_cases e : v = i
    · subst e
      rw [List.getElem?_set_self (by rw [wipe_length]; exact hi)]
    · rw [List.getElem?_set_ne e]
      exact wipe_at ((List.mem_cons.mp h).resolve_left fun z => e z.symm) hi
theorem wipe_not {σ : L2.St} {i : Nat} : ∀ {vs : List Nat}, i ∉ vs → (wipe σ vs)[i]? = σ[i]?
  | [], _ => rfl
  | v :: vs, h => by
    unfold wipe
    rw [List.getElem?_set_ne (fun e => h (by rw [e]; exact List.mem_cons_self))]
    exact wipe_not fun z => h (List.mem_cons_of_mem _ z)
theorem wipe_ext {σ σ' : L2.St} {vs : List Nat} (hl : σ.length = σ'.length) (h : ∀ i, i ∉ vs → σ[i]? = σ'[i]?) : wipe σ vs = wipe σ' vs := by
  apply List.ext_getElem?
  intro i
  by_cases hi : i ∈ vs
  · by_cases hlt : i < σ.length
    · rw [wipe_at hi hlt, wipe_at hi (by rw [← hl]; exact hlt)]
    · rw [List.getElem?_eq_none (by rw [wipe_length]; omega), List.getElem?_eq_none (by rw [wipe_length]; omega)]
  · rw [wipe_not hi, wipe_not hi, h i hi]
theorem wipe_set {σ : L2.St} {vs : List Nat} {i : Nat} {x : Option V} (h : i ∈ vs) : wipe (σ.set i x) vs = wipe σ vs :=
  wipe_ext (by simp) fun j hj => List.getElem?_set_ne fun e => hj (by rw [← e]; exact h)
theorem wipe_wipe {σ : L2.St} {vs : List Nat} : wipe (wipe σ vs) vs = wipe σ vs := wipe_ext (wipe_length _ _) fun _ hj => wipe_not hj
def DG (X : Cx) (tg : Expr) (b : D → En → Option En) (ks : List Nat) : Prop :=
  ∃ t : TG, PG X tg t ∧ ∀ H0 g σ env v d env', Same g.F g.H → EnvOk H0 g σ env → Rp g.F g.p v d → b d env = some env' → ∀ Q : L2.St → Hp → Prop,
    (∀ σ', EnvOk H0 g σ' env' → (∀ vs, (∀ k ∈ ks, k ∈ vs) → wipe σ' vs = wipe σ vs) → Q σ' g.H) → t v σ g.H Q
def DGs (X : Cx) (tgs : List Expr) (b : List D → En → Option En) (ks : List Nat) : Prop :=
  ∃ t : TGs, PGs X tgs t ∧ ∀ H0 g σ env vs ds env', Same g.F g.H → EnvOk H0 g σ env → RpA g.F g.p vs ds → b ds env = some env' → ∀ Q : L2.St → Hp → Prop,
    (∀ σ', EnvOk H0 g σ' env' → (∀ vs, (∀ k ∈ ks, k ∈ vs) → wipe σ' vs = wipe σ vs) → Q σ' g.H) → t vs σ g.H Q
def bName (i : Nat) : D → En → Option En := fun d env => some (env.set i (.f d))
def bNil : List D → En → Option En
  | [], env => some env
  | _, _ => none
def bCons (b : D → En → Option En) (r : List D → En → Option En) : List D → En → Option En
  | d :: ds, env => (b d env).bind (r ds)
  | [], _ => none
def bTup (b : List D → En → Option En) : D → En → Option En
  | .tup ds, env => b ds env
  | _, _ => none
section
variable {X : Cx} {pos : Pos}
theorem dg_name {x : Str} (i : Nat) (hN : X.N.Nodup) (hi : X.N[i]? = some x) (hx : L2.Loc X.env.scope x) (hf : X.fn x = true ∨ X.env.scope.names.lookup x = some .local := by first | exact .inl rfl | exact .inr rfl | assumption) : DG X (.Name x pos) (bName i) [i] :=
  ⟨_, pg_name hN hi hx hf, fun H0 g σ env v d env' sm hE r e Q k => by
    cases e
    exact k _ (hE.set i r) fun vs h => wipe_set (h i (by simp))⟩
theorem dgs_nil : DGs X [] bNil [] := ⟨_, pgs_nil, fun H0 g σ env vs ds env' sm hE r e Q k => by
  cases r with
  | nil => cases e; exact ⟨rfl, k σ hE fun _ _ => rfl⟩
  | cons _ _ => cases e⟩
theorem dgs_cons {e : Expr} {es : List Expr} {b : D → En → Option En} {r : List D → En → Option En} {ks js : List Nat} (h1 : DG X e b ks) (h2 : DGs X es r js)
    (hs : (assignEach (e :: es) X.env).map (·.2) = assign e X.env :: (assignEach es X.env).map (·.2) := by rfl) : DGs X (e :: es) (bCons b r) (ks ++ js) := by
  obtain ⟨t, p, k⟩ := h1
  obtain ⟨t2, p2, k2⟩ := h2
  refine ⟨_, pgs_cons p p2 hs, fun H0 g σ env vs ds env' sm hE ra eq Q q => ?_⟩
  cases ra with
  | nil => cases eq
  | @cons v d vs ds rv rs =>
    have eq : (b d env).bind (r ds) = some env' := eq
    cases e1 : b d env with
    | none => rw [e1] at eq; cases eq
    | some env1 =>
      rw [e1] at eq
      refine ⟨v, vs, rfl, k H0 g σ env v d env1 sm hE rv e1 _ fun σ1 hE1 w1 => ?_⟩
      exact k2 H0 g σ1 env1 vs ds env' sm hE1 rs eq Q fun σ2 hE2 w2 => q σ2 hE2 fun us hu => (w2 us fun k hk => hu k (List.mem_append_right _ hk)).trans (w1 us fun k hk => hu k (List.mem_append_left _ hk))
theorem dg_tup {es : List Expr} {k : Nat} {b : List D → En → Option En} {ks : List Nat} {n : Nat} (hc : X.calm = true) (h : DGs X es b ks)
    (hlen : ∀ ds env env', b ds env = some env' → ds.length = n) (hn : (assignEach es X.env).length = n := by rfl) (hst : (assignEach es X.env).findIdx? (·.1) = none := by rfl) : DG X (.Tuple es k pos) (bTup b) ks := by
  obtain ⟨t, p, q⟩ := h
  refine ⟨_, pg_tup hc p hn hst, fun H0 g σ env v d env' sm hE r e Q k => ?_⟩
  cases r with
  | tup h1 t1 => exact ⟨_, _, rfl, SqT.of (sm _ _ h1), by rw [t1.length]; exact hlen _ _ _ e, q H0 g σ env _ _ env' sm hE t1 e Q k⟩
  | _ => cases e
end

/-! ### for -/
def forD (body : En → M Fl) (b : D → En → Option En) : List D → En → M Fl
  | [], env => M.ret (.nx env)
  | d :: ds, env => match b d env with
    | none => M.bad
    | some env1 => M.bind (body env1) fun fl => match fl with
      | .nx e => forD body b ds e
      | .ct e => forD body b ds e
      | .bk e => M.ret (.nx e)
      | o => M.ret o
def sFor (it : En → M (List D)) (b : D → En → Option En) (body : En → M Fl) : En → M Fl := fun env => liftS (it env) env fun ds => forD body b ds env
section
variable {m : Bool} {X : Cx} {W : WX} {ca : Ct} {pos : Pos}
theorem ds_for {tg iter : Expr} {body : List Stmt} {it : En → M (List D)} {b : D → En → Option En} {ks : List Nat} {f : En → M Fl} (hp : PassesOwn (model X.prog X.w) X.A X.env X.xe) (hc : X.calm = true) (hi : DI true m X W ca iter it) (hg : DG X tg b ks) (hb : DSs m X W ca body f)
    (hs : ∀ x, foldedSetIterable iter X.env x = pure x := by intro _; rfl) : DS m X W ca (.For tg iter body [] pos) (sFor it b f) := by
  obtain ⟨wi, pi, ki⟩ := hi
  obtain ⟨tg', pg, kg⟩ := hg
  obtain ⟨tb, pb, kb⟩ := hb
  refine ⟨_, ps_for hp hc (pi tg) pg pb hs, fun g0 g S σ env e0 hS hE D h => ?_⟩
  refine ki g0.H g S σ env hS hE _ (sat_mono (stE e0 hE h) (fun ds S1 z g1 J e1 s1 ok => ?_) fun _ _ q => q)
  have z := z g1 e1
  refine ⟨fun i n σ' H' => n = ds.length - i ∧ i ≤ ds.length ∧ ∃ g' S' env', H' = g'.H ∧ Ext m g0 g' ∧ Mo m g1 g' ∧ SOk ca g' S' ∧ EnvOk g0.H g' σ' env' ∧ (forD f b (ds.drop i) env' S').sat (okS m ca W g0 g' D) noX,
    ⟨ds.length, by simp, Nat.zero_le _, g1, S1, env, rfl, e0.trans e1, Mo.refl _, s1, hE.ext e1, z⟩, ?_⟩
  rintro i n σ' H' ⟨rfl, hi, g', S', env', rfl, e2, m2, s2, hE2, k⟩
  obtain ⟨okg, oks⟩ := ok g' S' m2 s2 i
  by_cases hlt : i < ds.length
  · have hd : ds.drop i = ds[i] :: ds.drop (i + 1) := List.drop_eq_getElem_cons hlt
    rw [hd] at k
    obtain ⟨go, yl⟩ := okg ds[i] (List.getElem?_eq_getElem hlt)
    refine .inr ⟨go, fun σ'' H'' => ∃ g'' S'' env'', H'' = g''.H ∧ Ext m g0 g'' ∧ Mo m g1 g'' ∧ SOk ca g'' S'' ∧ EnvOk g0.H g'' σ'' env'' ∧ (forD f b (ds.drop (i + 1)) env'' S'').sat (okS m ca W g0 g'' D) noX, fun σ'' H'' w => ⟨ds.length - (i + 1), by omega, rfl, hlt, w⟩, fun x H'' y => ?_⟩
    obtain ⟨rfl, rx⟩ := yl x H'' y
    unfold forD at k
    cases eb : b ds[i] env' with
    | none => rw [eb] at k; exact k.elim
    | some env1 =>
      rw [eb] at k
      refine kg g0.H g' σ' env' x _ env1 s2.same hE2 rx eb _ fun σ1 hE1 _ => ?_
      refine kb g0 g' S' σ1 env1 e2 s2 hE1 _ (sat_mono (sat_bind k) (fun fl S3 q => ?_) fun _ _ q => q)
      have nxt : ∀ {e : En}, (forD f b (ds.drop (i + 1)) e S3).sat (okS m ca W g0 g' D) noX → ∀ g3 σ3, Ext m g0 g3 → Mo m g' g3 → SOk ca g3 S3 → EnvOk g0.H g3 σ3 e →
          ∃ g'' S'' env'', g3.H = g''.H ∧ Ext m g0 g'' ∧ Mo m g1 g'' ∧ SOk ca g'' S'' ∧ EnvOk g0.H g'' σ3 env'' ∧ (forD f b (ds.drop (i + 1)) env'' S'').sat (okS m ca W g0 g'' D) noX := fun {e} q g3 σ3 a b c d =>
        ⟨g3, S3, e, rfl, a, m2.trans b, c, d, sat_mono q (fun _ _ q => q.mono b) fun _ _ q => q⟩
      cases fl with
      | nx e => exact fun g3 σ3 a b c d => nxt q g3 σ3 a b c d
      | ct e => exact fun g3 σ3 a b c d => nxt q g3 σ3 a b c d
      | bk e => exact q
      | rt d => exact q
      | rtO d => exact q
      | ex c e => exact q
  · have hi' : i = ds.length := by omega
    subst hi'
    rw [List.drop_length] at k
    exact .inl ⟨oks (Nat.le_refl _), (show okS m ca W g0 g' D (.nx env') S' from k) g' σ' e2 (Mo.refl _) s2 hE2⟩
/-! ### while -/
def whileD (c : En → M Bool) (body : En → M Fl) : Nat → En → M Fl
  | 0, _ => M.bad
  | n + 1, env => liftS (c env) env fun b => if b = true then M.bind (body env) fun fl => match fl with
      | .nx e => whileD c body n e
      | .ct e => whileD c body n e
      | .bk e => M.ret (.nx e)
      | o => M.ret o
    else M.ret (.nx env)
theorem ds_while {c : Expr} {body : List Stmt} {fc : En → M Bool} {f : En → M Fl} (n : Nat) (hp : PassesOwn (model X.prog X.w) X.A X.env X.xe) (hc : DT m X W ca c fc) (hb : DSs m X W ca body f) : DS m X W ca (.While c body [] pos) (whileD fc f n) := by
  obtain ⟨tc, pc, kc⟩ := hc
  obtain ⟨tb, pb, kb⟩ := hb
  refine ⟨_, ps_while hp pc pb, fun g0 g S σ env e0 hS hE D h => ?_⟩
  refine ⟨fun n σ' H' => ∃ g' S' env', H' = g'.H ∧ Ext m g0 g' ∧ SOk ca g' S' ∧ EnvOk g0.H g' σ' env' ∧ (whileD fc f n env' S').sat (okS m ca W g0 g' D) noX, ⟨n, g, S, env, rfl, e0, hS, hE, h⟩, ?_⟩
  rintro n σ' H' ⟨g', S', env', rfl, e1, s1, hE1, k⟩
  cases n with
  | zero => exact k.elim
  | succ n =>
    unfold whileD at k
    refine kc g0.H g' S' σ' env' s1 hE1 _ (sat_mono (stE e1 hE1 k) (fun b S2 q g2 e2 s2 => ?_) fun _ _ q => q)
    have q := q g2 e2
    cases b with
    | false => exact (show okS m ca W g0 g2 D (.nx env') S2 from q) g2 σ' (e1.trans e2) (Mo.refl _) s2 (hE1.ext e2)
    | true =>
      rw [if_pos rfl] at q
      show ∃ N : L2.St → Hp → Prop, _ ∧ _
      refine ⟨fun σ'' H'' => ∃ g' S' env', H'' = g'.H ∧ Ext m g0 g' ∧ SOk ca g' S' ∧ EnvOk g0.H g' σ'' env' ∧ (whileD fc f n env' S').sat (okS m ca W g0 g' D) noX, fun σ'' H'' w => ⟨n, by omega, w⟩, ?_⟩
      refine kb g0 g2 S2 σ' env' (e1.trans e2) s2 (hE1.ext e2) _ (sat_mono (sat_bind q) (fun fl S3 q => ?_) fun _ _ q => q)
      cases fl with
      | nx e => exact fun g3 σ3 a b c d => ⟨g3, S3, e, rfl, a, c, d, sat_mono q (fun _ _ q => q.mono b) fun _ _ q => q⟩
      | ct e => exact fun g3 σ3 a b c d => ⟨g3, S3, e, rfl, a, c, d, sat_mono q (fun _ _ q => q.mono b) fun _ _ q => q⟩
      | bk e => exact q
      | rt d => exact q
      | rtO d => exact q
      | ex c e => exact q

theorem FsOk.kp {g g' : G} {n : Nat} (sm : Same g.F g'.F) (ob : PiLe g.p g'.p) (hp : ∀ l a, g.p l = some a → g'.p l = some a) (hH : ∀ l a o, g.p l = some a → g.H a = some o → g'.H a = some o) :
    ∀ {vs : List (Str × V)} {ws : List (Str × FV)}, FsOk g n vs ws → FsOk g' n vs ws
  | _, _, .nil => .nil
  | _, _, .cons (w := w) h t => .cons (by
      cases w with
      | f d => exact Rp.mono sm ob h
      | o xs => obtain ⟨l, vs, h1, h2, h3, h4⟩ := h; exact ⟨l, vs, h1, hp _ _ h2, hH _ _ _ h2 h3, RpA.mono sm ob h4⟩
      | k xs => obtain ⟨l, vs, h1, h2, h3, h4⟩ := h; exact ⟨l, vs, h1, hp _ _ h2, hH _ _ _ h2 h3, RpK.mono sm ob h4⟩) (FsOk.kp sm ob hp hH t)
/-- what is nobody's, or the frame's own, is written -/
def G.wr (g : G) (q : Addr) (u : HO) : G := ⟨g.F, upd g.H q u, g.p⟩
theorem sok_wr {g : G} {S : Store} (hS : SOk ca g S) {q : Addr} {o u : HO} (hq : g.H q = some o) (hz : ∀ ob w, o ≠ .frz ob w := by intro _ _ h; cases h) (hF : g.F q = none) (hp : ∀ l, g.p l ≠ some q) : SOk ca (g.wr q u) S := by
  have nq : ∀ l a, g.p l = some a → a ≠ q := fun l a h z => hp l (by rw [← z]; exact h)
  have at_ : ∀ l a o, g.p l = some a → g.H a = some o → (g.wr q u).H a = some o := fun l a o h1 h2 => by show upd g.H q u a = _; rw [upd_ne (nq l a h1)]; exact h2
  refine ⟨fun b x e => ?_, hS.inj, hS.out, fun l a h => ?_, fun n ob h => ?_, fun a ns h => (hS.sc a ns h).keep fun b ob w e => ?_, hS.lt, hS.lf⟩
  · have : b ≠ q := fun z => by
      subst z
      have e : g.F b = some x := e
      rw [hF] at e; cases e
    show upd g.H q u b = _
    rw [upd_ne this]; exact hS.same _ _ e
  · obtain ⟨o, h1⟩ := hS.live l a h
    exact ⟨o, at_ l a o h h1⟩
  · obtain ⟨a, dx, fs, h1, h2, h3⟩ := hS.obs n ob h
    exact ⟨a, dx, fs, h1, at_ _ _ _ h1 h2, FsOk.kp (g := g) (g' := g.wr q u) (Same.refl _) (PiLe.refl _) (fun _ _ h => h) at_ h3⟩
  · have : b ≠ q := fun z => by
      subst z
      rw [hq] at e; cases e
      exact hz _ _ rfl
    show upd g.H q u b = _
    rw [upd_ne this]; exact e
theorem mo_wr {g : G} {q : Addr} {o u : HO} (hq : g.H q = some o) (hp : ∀ l, g.p l ≠ some q) : Mo m g (g.wr q u) :=
  ⟨Same.refl _, PiLe.refl _, fun b h => by
    have h : upd g.H q u b = none := h
    by_cases z : b = q
    · subst z; rw [upd_same] at h; cases h
    · rw [upd_ne z] at h; exact h, fun _ => ⟨rfl, fun l a o h1 h2 => by show upd g.H q u a = _; rw [upd_ne (fun z => hp l (by rw [← z]; exact h1))]; exact h2⟩⟩
/-- .. from an entry at which it was not there -/
theorem ext_wr {g0 g : G} (e : Ext m g0 g) {q : Addr} {u : HO} (n : g0.H q = none) : Ext m g0 (g.wr q u) :=
  ⟨e.same, fun b o h f k => by
    obtain ⟨h1, h2, h3⟩ := e.stay b o h f k
    exact ⟨by show upd g.H q u b = _; rw [upd_ne (ne_of_none h n)]; exact h1, h2, h3⟩, e.obs, fun b h => by
    have h : upd g.H q u b = none := h
    by_cases z : b = q
    · subst z; exact n
    · rw [upd_ne z] at h; exact e.dom b h, fun hm => by
    obtain ⟨h1, h2⟩ := e.pure hm
    exact ⟨h1, fun l a o h3 h4 => by show upd g.H q u a = _; rw [upd_ne (ne_of_none h4 n)]; exact h2 l a o h3 h4⟩⟩
/-! ### a list comprehension -/
def wipeE (env : En) : List Nat → En
  | [] => env
  | v :: vs => (wipeE env vs).set v .u
theorem EnvOk.wipe {H0 : Hp} {g : G} {σ : L2.St} {env : En} (h : EnvOk H0 g σ env) : ∀ vs : List Nat, EnvOk H0 g (wipe σ vs) (wipeE env vs)
  | [] => h
  | v :: vs => by
    have ih := EnvOk.wipe h vs
    unfold L2.wipe wipeE
    refine ⟨by simp [ih.len], fun j x y a b => ?_, fun j k x y y' ne a b c d' o o' => ?_⟩
    · by_cases hj : v = j
      · subst hj
        have hi : v < (wipeE env vs).length := by
          have := (List.getElem?_eq_some_iff.mp b).1
          simpa using this
        rw [List.getElem?_set_self hi] at b
        cases b
        trivial
      · rw [List.getElem?_set_ne hj] at a b
        exact ih.at_ j x y a b
    · have nj : v ≠ j := fun z => by
        subst z
        have hi : v < (wipeE env vs).length := by
          have := (List.getElem?_eq_some_iff.mp c).1
          simpa using this
        rw [List.getElem?_set_self hi] at c
        cases c; cases o
      have nk : v ≠ k := fun z => by
        subst z
        have hi : v < (wipeE env vs).length := by
          have := (List.getElem?_eq_some_iff.mp d').1
          simpa using this
        rw [List.getElem?_set_self hi] at d'
        cases d'; cases o'
      rw [List.getElem?_set_ne nj] at a c
      rw [List.getElem?_set_ne nk] at b d'
      exact ih.apart j k x y y' ne a b c d' o o'
/-- what must not raise -/
def quiet {α : Type} (c : M α) : M α := fun S => match c S with
  | .ok a S' => .ok a S'
  | _ => .bad
theorem sat_quiet {α : Type} {c : M α} {S : Store} {P : α → Store → Prop} {E E' : Str → Store → Prop} (h : (quiet c S).sat P E) : (c S).sat P E' := by
  unfold quiet at h
  cases e : c S with
  | ok a S' => rw [e] at h; exact h
  | exc c S' => rw [e] at h; exact h.elim
  | bad => rw [e] at h; exact h.elim
def lcD (b : D → En → Option En) (t : En → M Bool) (elt : En → M D) (env : En) : List D → List D → M (List D)
  | [], acc => M.ret acc
  | d :: ds, acc => match b d env with
    | none => M.bad
    | some env1 => M.bind (quiet (t env1)) fun k => if k = true then M.bind (quiet (elt env1)) fun y => if acc.length < lim then lcD b t elt env ds (acc ++ [y]) else M.bad else lcD b t elt env ds acc
def oLc (it : En → M (List D)) (b : D → En → Option En) (t : En → M Bool) (elt : En → M D) (vs : List Nat) : En → M (List D) := fun env => M.bind (it env) fun ds => lcD b t elt (wipeE env vs) ds []
abbrev W0 : WX := fun _ _ _ _ => False
abbrev Blk (X : Cx) (scope : Scope) (P : Cx → Prop) : Prop := ∀ (s : Shared) (H : Hp) (C : Addr) (cl : List (Str × Addr)) (fp : List Addr), P (X.blk s H scope (compEnvC scope cl C X.env) fp)
def DTs (m : Bool) (X : Cx) (W : WX) (ca : Ct) (es : List Expr) (f : En → M Bool) : Prop :=
  ∃ t, PTs X es t ∧ ∀ H0 g S σ env, SOk ca g S → EnvOk H0 g σ env → ∀ Q : Bool → Hp → Prop, (f env S).sat (okT m ca g Q) (exE m ca W g σ) → t σ g.H Q
def tYesD : En → M Bool := fun _ => M.ret true
theorem dts_nil : DTs m X W ca [] tYesD := ⟨_, pts_nil, fun H0 g S σ env hS hE Q h => h g (Ext.refl _) hS⟩
theorem dts_one {c : Expr} {f : En → M Bool} (h : DT m X W ca c f) : DTs m X W ca [c] f := let ⟨_, p, k⟩ := h; ⟨_, pts_one p, k⟩
/-- a reading that says what it gives -/
abbrev SpE (m : Bool) (W : WX) (ca : Ct) (f : En → M D) (t : TE) : Prop := ∀ H0 g S σ env, SOk ca g S → EnvOk H0 g σ env → ∀ Q : VK, (f env S).sat (okE m ca g Q) (exE m ca W g σ) → t σ g.H Q
abbrev SpT (m : Bool) (W : WX) (ca : Ct) (f : En → M Bool) (t : TT) : Prop := ∀ H0 g S σ env, SOk ca g S → EnvOk H0 g σ env → ∀ Q : Bool → Hp → Prop, (f env S).sat (okT m ca g Q) (exE m ca W g σ) → t σ g.H Q
abbrev SpG (b : D → En → Option En) (ks : List Nat) (t : TG) : Prop := ∀ H0 g σ env v d env', Same g.F g.H → EnvOk H0 g σ env → Rp g.F g.p v d → b d env = some env' → ∀ Q : L2.St → Hp → Prop,
    (∀ σ', EnvOk H0 g σ' env' → (∀ vs, (∀ k ∈ ks, k ∈ vs) → wipe σ' vs = wipe σ vs) → Q σ' g.H) → t v σ g.H Q
/-- one reading for all blocks -/
theorem allE {scope : Scope} {elt : Expr} {f : En → M D} (h : Blk X scope fun Y => DE m Y W0 ca elt f) : ∃ te : TE, (Blk X scope fun Y => PE Y elt te) ∧ SpE m W0 ca f te :=
  ⟨fun σ H Q => ∀ t : TE, SpE m W0 ca f t → t σ H Q, fun s H C cl fp => by
    obtain ⟨t, p, k⟩ := h s H C cl fp
    exact ⟨fun pins s' σ H' Q I q => p.run pins s' σ H' Q I (q t k)⟩, fun H0 g S σ env hS hE Q q t k => k H0 g S σ env hS hE Q q⟩
theorem allT {scope : Scope} {es : List Expr} {f : En → M Bool} (h : Blk X scope fun Y => DTs m Y W0 ca es f) : ∃ te : TT, (Blk X scope fun Y => PTs Y es te) ∧ SpT m W0 ca f te :=
  ⟨fun σ H Q => ∀ t : TT, SpT m W0 ca f t → t σ H Q, fun s H C cl fp => by
    obtain ⟨t, p, k⟩ := h s H C cl fp
    exact ⟨fun pins s' σ H' Q I q => p.run pins s' σ H' Q I (q t k)⟩, fun H0 g S σ env hS hE Q q t k => k H0 g S σ env hS hE Q q⟩
theorem allG {scope : Scope} {tg : Expr} {b : D → En → Option En} {ks : List Nat} (h : Blk X scope fun Y => DG Y tg b ks) : ∃ t : TG, (Blk X scope fun Y => PG Y tg t) ∧ SpG b ks t :=
  ⟨fun v σ H Q => ∀ t : TG, SpG b ks t → t v σ H Q, fun s H C cl fp => by
    obtain ⟨t, p, k⟩ := h s H C cl fp
    exact ⟨fun pins s' σ H' v u Q I r q => p.run pins s' σ H' v u Q I r (q t k)⟩, fun H0 g σ env v d env' sm hE r e Q q t k => k H0 g σ env v d env' sm hE r e Q q⟩
theorem lc_read {wi : TI} {tg : TG} {tt : TT} {te : TE} {vs ks : List Nat} {it : En → M (List D)} {b : D → En → Option En} {ft : En → M Bool} {fe : En → M D}
    (ki : ∀ H0 g S σ env, SOk ca g S → EnvOk H0 g σ env → ∀ R : It → Hp → Prop, (it env S).sat (fun ds S' => ∀ g' J, Ext m g g' → SOk ca g' S' → ItOk false m ca g' J ds → R J g'.H) (exE m ca W g σ) → wi σ g.H R)
    (kg : SpG b ks tg) (kt : SpT m W0 ca ft tt) (ke : SpE m W0 ca fe te) (hk : ∀ k ∈ ks, k ∈ vs) :
    ∀ H0 g S σ env, SOk ca g S → EnvOk H0 g σ env → ∀ Q : VK, (oLc it b ft fe vs env S).sat (okO m ca g Q) (exE m ca W g σ) → tLc wi tg tt te vs σ g.H Q := fun H0 g S σ env hS hE Q h => by
  refine ki H0 g S σ env hS hE _ (sat_mono (seqO h) (fun ds S1 z g1 J e1 s1 ok => ?_) fun _ _ q => q)
  have z := z g1 e1
  intro L hL
  -- the new list is nobody's
  refine ⟨fun i n H' => n = ds.length - i ∧ i ≤ ds.length ∧ ∃ g' S' acc ac, H' = g'.H ∧ Ext m g1 g' ∧ SOk ca g' S' ∧ g'.H L = some (.lst ac) ∧ g'.F L = none ∧ (∀ l, g'.p l ≠ some L) ∧ RpA g'.F g'.p ac acc ∧ (lcD b ft fe (wipeE env vs) (ds.drop i) acc S').sat (okO m ca g1 Q) (exE m ca W g1 σ),
    ⟨ds.length, by simp, Nat.zero_le _, g1.nw L (.lst []), S1, [], [], rfl, ext_nw s1 hL _, sok_nw s1 hL _, upd_same, s1.free hL, s1.nop hL, .nil, z⟩, ?_⟩
  rintro i n H' ⟨rfl, hi, g', S', acc, ac, rfl, e2, s2, hl1, hl2, hl3, ra, k⟩
  obtain ⟨okg, oks⟩ := ok g' S' e2 s2 i
  by_cases hlt : i < ds.length
  · have hd : ds.drop i = ds[i] :: ds.drop (i + 1) := List.drop_eq_getElem_cons hlt
    rw [hd] at k
    obtain ⟨go, yl⟩ := okg ds[i] (List.getElem?_eq_getElem hlt)
    refine .inr ⟨go, fun H'' => ∃ g'' S' acc ac, H'' = g''.H ∧ Ext m g1 g'' ∧ SOk ca g'' S' ∧ g''.H L = some (.lst ac) ∧ g''.F L = none ∧ (∀ l, g''.p l ≠ some L) ∧ RpA g''.F g''.p ac acc ∧ (lcD b ft fe (wipeE env vs) (ds.drop (i + 1)) acc S').sat (okO m ca g1 Q) (exE m ca W g1 σ),
      fun H'' w => ⟨ds.length - (i + 1), by omega, rfl, hlt, w⟩, fun x H'' y => ?_⟩
    obtain ⟨rfl, rx⟩ := yl x H'' y
    unfold lcD at k
    have hE2 : EnvOk H0 g' (wipe σ vs) (wipeE env vs) := (((hE.ext e1).ext e2).wipe vs)
    cases eb : b ds[i] (wipeE env vs) with
    | none => rw [eb] at k; exact k.elim
    | some env1 =>
      rw [eb] at k
      refine kg H0 g' _ _ x _ env1 s2.same hE2 rx eb _ fun σ1 hE1 hw => ⟨(hw vs hk).trans wipe_wipe, ?_⟩
      refine kt H0 g' S' σ1 env1 s2 hE1 _ (sat_mono (sat_quiet (E' := exE m ca W0 g' σ1) (sat_bind k)) (fun kb S3 q g3 e3 s3 => ?_) fun _ _ q => q)
      obtain ⟨a3, f3, p3⟩ := e3.stay L _ hl1 hl2 hl3
      cases kb with
      | false => exact ⟨g3, S3, acc, ac, rfl, e2.trans e3, s3, a3, f3, p3, e3.rpA ra, q⟩
      | true =>
        rw [if_pos rfl] at q ⊢
        refine ke H0 g3 S3 σ1 env1 s3 (hE1.ext e3) _ (sat_mono (sat_quiet (E' := exE m ca W0 g3 σ1) (sat_bind q)) (fun y S4 q g4 v e4 s4 r4 => ?_) fun _ _ q => q)
        obtain ⟨a4, f4, p4⟩ := e4.stay L _ a3 f3 p3
        by_cases c : acc.length < lim
        · rw [if_pos c] at q
          have ra4 := e4.rpA (e3.rpA ra)
          exact ⟨ac, a4, by rw [ra4.length]; exact lim_lt' c, g4.wr L (.lst (ac ++ [v])), S4, acc ++ [y], ac ++ [v], rfl, ext_wr ((e2.trans e3).trans e4) hL, sok_wr s4 a4 (hF := f4) (hp := p4), upd_same, f4, p4, ra4.append (.one r4), q⟩
        · rw [if_neg c] at q; exact q.elim
  · have hi' : i = ds.length := by omega
    subst hi'
    rw [List.drop_length] at k
    exact .inl ⟨oks (Nat.le_refl _), (show okO m ca g1 Q acc S' from k) g' L ac e2 s2 hL hl1 hl2 hl3 ra⟩
theorem do_lc {elt tg iter : Expr} {ifs : List Expr} {scope : Scope} {own : List (Str × Nat)} {it : En → M (List D)} {b : D → En → Option En} {ks : List Nat} {ft : En → M Bool} {fe : En → M D} (hc : X.calm = true) (hN : X.N.Nodup)
    (hi : DI false m X W ca iter it) (ok : BlkOk X.N X.env.scope scope own) (hg : Blk X scope fun Y => DG Y tg b ks) (ht : Blk X scope fun Y => DTs m Y W0 ca ifs ft) (he : Blk X scope fun Y => DE m Y W0 ca elt fe) (hk : ∀ k ∈ ks, k ∈ own.map (·.2) := by decide)
    (hs : ∀ x, foldedSetIterable iter X.env x = pure x := by intro _; rfl) : DO m X W ca (.ListComp elt [⟨tg, iter, ifs, 0⟩] scope pos) (oLc it b ft fe (own.map (·.2))) := by
  obtain ⟨wi, pi, ki⟩ := hi
  obtain ⟨t1, p1, k1⟩ := allG hg
  obtain ⟨t2, p2, k2⟩ := allT ht
  obtain ⟨t3, p3, k3⟩ := allE he
  exact ⟨_, pe_lc hc hN (pi tg) ok p1 p2 p3 hs, lc_read ki k1 k2 k3 hk⟩
theorem ds_setLc {elt tg iter : Expr} {ifs : List Expr} {scope : Scope} {own : List (Str × Nat)} {it : En → M (List D)} {b : D → En → Option En} {ks : List Nat} {ft : En → M Bool} {fe : En → M D} {y : Str} {py spos : Pos} (i : Nat) (hc : X.calm = true) (hN : X.N.Nodup)
    (hy : X.N[i]? = some y) (hyl : X.env.scope.names.lookup y = some .local) (hsw : swapsWith (.ListComp elt [⟨tg, iter, ifs, 0⟩] scope pos) (some (.Name y py)) spos.line X.env = pure true)
    (hi : DI false m X W ca iter it) (ok : BlkOk X.N X.env.scope scope own) (hg : Blk X scope fun Y => DG Y tg b ks) (ht : Blk X scope fun Y => DTs m Y W0 ca ifs ft) (he : Blk X scope fun Y => DE m Y W0 ca elt fe) (hk : ∀ k ∈ ks, k ∈ own.map (·.2) := by decide)
    (hs : ∀ x, foldedSetIterable iter X.env x = pure x := by intro _; rfl) : DS m X W ca (.Assign [.Name y py] (.ListComp elt [⟨tg, iter, ifs, 0⟩] scope pos) spos) (sSetO i (oLc it b ft fe (own.map (·.2)))) := by
  obtain ⟨wi, pi, ki⟩ := hi
  obtain ⟨t1, p1, k1⟩ := allG hg
  obtain ⟨t2, p2, k2⟩ := allT ht
  obtain ⟨t3, p3, k3⟩ := allE he
  exact ⟨_, ps_setLc hc hN hy hyl hsw (pi tg) ok p1 p2 p3 hs, setO_ok (lc_read ki k1 k2 k3 hk)⟩
end
end Dn

namespace Dn
open PySem L2 PyProof.Rows

/-! ### lists of the frame's own, written -/
theorem own_wr {H0 : Hp} {g : G} {σ : L2.St} {env : En} {i : Nat} {w w' : EV} {q : Addr} {o u : HO} (hE : EnvOk H0 g σ env) (ew : env[i]? = some w) (ow : w.own = true) (es : σ[i]? = some (some (.ref q))) (hq : g.H q = some o) (hn : OwnAt H0 g q)
    (new : EvOk H0 (g.wr q u) (some (.ref q)) w') : EnvOk H0 (g.wr q u) σ (env.set i w') := by
  have hi : i < env.length := (List.getElem?_eq_some_iff.mp ew).1
  refine ⟨by simp [hE.len], fun j x y a b => ?_, fun j k x y y' ne a b c d' o1 o2 => ?_⟩
  · by_cases hj : i = j
    · subst hj
      rw [List.getElem?_set_self hi] at b
      cases b
      rw [es] at a; cases a
      exact new
    · rw [List.getElem?_set_ne hj] at b
      have z := hE.at_ j x y a b
      have keep : ∀ l, y.own = true → x = some (.ref l) → l ≠ q := fun l oy ex z => by
        subst z; subst ex
        exact hE.apart i j _ w y hj es a ew b ow oy
      cases y with
      | u => trivial
      | f d => exact z
      | o xs =>
        obtain ⟨l, vs, h1, h2, h3, h4⟩ := z
        exact ⟨l, vs, h1, by show upd g.H q u l = _; rw [upd_ne (keep l rfl h1)]; exact h2, h3, ⟨h4.out, h4.nop, h4.new⟩⟩
      | k xs =>
        obtain ⟨l, vs, h1, h2, h3, h4⟩ := z
        exact ⟨l, vs, h1, by show upd g.H q u l = _; rw [upd_ne (keep l rfl h1)]; exact h2, h3, ⟨h4.out, h4.nop, h4.new⟩⟩
  · have p1 : ∃ z, env[j]? = some z ∧ z.own = true := by
      by_cases nj : i = j
      · subst nj; exact ⟨w, ew, ow⟩
      · rw [List.getElem?_set_ne nj] at c; exact ⟨y, c, o1⟩
    have p2 : ∃ z, env[k]? = some z ∧ z.own = true := by
      by_cases nk : i = k
      · subst nk; exact ⟨w, ew, ow⟩
      · rw [List.getElem?_set_ne nk] at d'; exact ⟨y', d', o2⟩
    obtain ⟨z1, e1, w1⟩ := p1
    obtain ⟨z2, e2, w2⟩ := p2
    exact hE.apart j k x z1 z2 ne a b e1 e2 w1 w2
section
variable {m : Bool} {X : Cx} {W : WX} {ca : Ct} {a b e : Expr} {fa fb : En → M D} {pos : Pos}
theorem EnvOk.lst {H0 : Hp} {g : G} {σ : L2.St} {env : En} (h : EnvOk H0 g σ env) {i : Nat} {xs : List D} (e : env[i]? = some (.o xs)) : ∃ q vs, σ[i]? = some (some (.ref q)) ∧ g.H q = some (.lst vs) ∧ RpA g.F g.p vs xs ∧ OwnAt H0 g q := by
  obtain ⟨v, h1, q, vs, rfl, h2, h3, h4⟩ := h.get e
  exact ⟨q, vs, h1, h2, h3, h4⟩
/-- x.append(e) -/
def onO (i : Nat) (k : En → List D → M Fl) : En → M Fl := fun env => match env[i]? with
  | some (.o xs) => k env xs
  | _ => M.bad
theorem onO_get {i : Nat} {k : En → List D → M Fl} {env : En} {S : Store} {P : Fl → Store → Prop} {E : Str → Store → Prop} (h : (onO i k env S).sat P E) : ∃ xs, env[i]? = some (.o xs) ∧ (k env xs S).sat P E := by
  unfold onO at h
  cases e : env[i]? with
  | none => rw [e] at h; exact h.elim
  | some w =>
    rw [e] at h
    cases w with
    | o xs => exact ⟨xs, rfl, h⟩
    | _ => exact h.elim
def sApp (i : Nat) (a : En → M D) : En → M Fl := onO i fun env xs => liftS (a env) env fun d => if xs.length < lim then M.ret (.nx (env.set i (.o (xs ++ [d])))) else M.bad
/-- the list at q in slot i gets the content ys -/
theorem wr_nx {g0 g : G} {S : Store} {σ : L2.St} {env : En} {Z : Ends} {i : Nat} {xs ys : List D} {q : Addr} {vs ws : List V} (e0 : Ext m g0 g) (hS : SOk ca g S) (hE : EnvOk g0.H g σ env) (e : env[i]? = some (.o xs)) (es : σ[i]? = some (some (.ref q))) (hq : g.H q = some (.lst vs)) (hn : OwnAt g0.H g q)
    (r : RpA g.F g.p ws ys) (h : okS m ca W g0 g Z (.nx (env.set i (.o ys))) S) : Z.nx σ (upd g.H q (.lst ws)) :=
  h (g.wr q (.lst ws)) σ (ext_wr e0 hn.new) (mo_wr hq hn.nop) (sok_wr hS hq (hF := hn.out) (hp := hn.nop)) (own_wr hE e rfl es hq hn ⟨q, ws, rfl, upd_same, r, ⟨hn.out, hn.nop, hn.new⟩⟩)
theorem ds_app {x : Str} {p0 apos cpos : Pos} (i : Nat) (ha : DE m X W ca a fa) (hN : X.N[i]? = some x := by rfl) (hv : Vis X.env.scope x := by first | exact Or.inl rfl | exact Or.inr (Or.inl rfl) | exact Or.inr (Or.inr rfl)) (hd : (x == ("__debug__" : Str)) = false := by decide)
    (hcd : (x == ("__classdict__" : Str)) = false := by decide) (hbase : attributeBase (.Name x p0) "append" X.env (eval (.Name x p0) X.env) = eval (.Name x p0) X.env := by rfl)
    (hfew : ((backTo cpos (starEach [a] X.env)).all (fun x => !x.1) && (backToKw cpos (keywordEach [] X.env)).all (fun x => x.1.isSome) && decide (([a] : List Expr).length + ([] : List Keyword).length + (if ([] : List Keyword).isEmpty then 0 else 1) < 30)) = true := by rfl)
    (hline : (apos.endLine == cpos.line) = true := by rfl) (hs : starEach [a] X.env = (false, eval a X.env) :: starEach [] X.env := by rfl) (hsw : swapsWith (.Call (.Attribute (.Name x p0) "append" apos) [a] [] cpos) none pos.line X.env = pure false := by rfl) :
    DS m X W ca (.Expr (.Call (.Attribute (.Name x p0) "append" apos) [a] [] cpos) pos) (sApp i fa) := by
  obtain ⟨t, p, k⟩ := ha
  refine ⟨_, ps_expr (pe_bm PySem.F.plainAttrs_list PySem.F.slot_list_append PySem.F.type_list_append mt_append (pe_var hN hv hd hcd) (pa_cons p pa_nil hs) hbase hfew hline hs) hsw, fun g0 g S σ env e0 hS hE D h => ?_⟩
  obtain ⟨xs, e, h⟩ := onO_get h
  obtain ⟨q, vs, es, hq, r, hn⟩ := hE.lst e
  refine ⟨_, es, .inl ⟨rfl, vs, SqL.of hq⟩, ?_⟩
  refine k g0.H g S σ env hS hE _ (sat_mono (stE e0 hE h) (fun d S1 z g1 v e1 s1 r1 => ?_) fun _ _ q => q)
  have z := z g1 e1
  obtain ⟨hn1, hq1⟩ := hn.ext hq e1
  by_cases c : xs.length < lim
  · rw [if_pos c] at z
    have r2 := (e1.rpA r).append (.one r1)
    exact ⟨q, vs, v, rfl, rfl, hq1, by rw [r.length]; exact lim_lt' c, wr_nx (W := W) (e0.trans e1) s1 (hE.ext e1) e es hq1 hn1 r2 z⟩
  · rw [if_neg c] at z; exact z.elim
/-- x.extend(e) -/
def sExt (i : Nat) (a : En → M D) : En → M Fl := onO i fun env xs => liftS (a env) env fun d => match d with
  | .lst ys => if xs.length + ys.length ≤ lim then M.ret (.nx (env.set i (.o (xs ++ ys)))) else M.bad
  | _ => M.bad
theorem ds_ext {x : Str} {p0 apos cpos : Pos} (i : Nat) (ha : DE m X W ca a fa) (hN : X.N[i]? = some x := by rfl) (hv : Vis X.env.scope x := by first | exact Or.inl rfl | exact Or.inr (Or.inl rfl) | exact Or.inr (Or.inr rfl)) (hd : (x == ("__debug__" : Str)) = false := by decide)
    (hcd : (x == ("__classdict__" : Str)) = false := by decide) (hbase : attributeBase (.Name x p0) "extend" X.env (eval (.Name x p0) X.env) = eval (.Name x p0) X.env := by rfl)
    (hfew : ((backTo cpos (starEach [a] X.env)).all (fun x => !x.1) && (backToKw cpos (keywordEach [] X.env)).all (fun x => x.1.isSome) && decide (([a] : List Expr).length + ([] : List Keyword).length + (if ([] : List Keyword).isEmpty then 0 else 1) < 30)) = true := by rfl)
    (hline : (apos.endLine == cpos.line) = true := by rfl) (hs : starEach [a] X.env = (false, eval a X.env) :: starEach [] X.env := by rfl) (hsw : swapsWith (.Call (.Attribute (.Name x p0) "extend" apos) [a] [] cpos) none pos.line X.env = pure false := by rfl) :
    DS m X W ca (.Expr (.Call (.Attribute (.Name x p0) "extend" apos) [a] [] cpos) pos) (sExt i fa) := by
  obtain ⟨t, p, k⟩ := ha
  refine ⟨_, ps_expr (pe_bm PySem.F.plainAttrs_list PySem.F.slot_list_extend PySem.F.type_list_extend mt_extend (pe_var hN hv hd hcd) (pa_cons p pa_nil hs) hbase hfew hline hs) hsw, fun g0 g S σ env e0 hS hE D h => ?_⟩
  obtain ⟨xs, e, h⟩ := onO_get h
  obtain ⟨q, vs, es, hq, r, hn⟩ := hE.lst e
  refine ⟨_, es, .inl ⟨rfl, vs, SqL.of hq⟩, ?_⟩
  refine k g0.H g S σ env hS hE _ (sat_mono (stE e0 hE h) (fun d S1 z g1 v e1 s1 r1 => ?_) fun _ _ q => q)
  have z := z g1 e1
  obtain ⟨hn1, hq1⟩ := hn.ext hq e1
  cases d with
  | lst ys =>
    dsimp only at z
    by_cases c : xs.length + ys.length ≤ lim
    · rw [if_pos c] at z
      obtain ⟨b, ws, rfl, h1, r3⟩ := Rb.lst (m := m) s1 (.inl r1)
      exact ⟨q, b, vs, ws, rfl, rfl, hq1, h1, by rw [r.length, r3.length]; exact lim_lt c, wr_nx (W := W) (e0.trans e1) s1 (hE.ext e1) e es hq1 hn1 ((e1.rpA r).append r3) z⟩
    · rw [if_neg c] at z; exact z.elim
  | _ => exact z.elim
/-- x[j] = e -/
def sSetI (i : Nat) (j a : En → M D) : En → M Fl := onO i fun env xs => liftS (a env) env fun d => liftS (j env) env fun k => match k with
  | .int n => match ixN xs.length n with
    | some p => M.ret (.nx (env.set i (.o (xs.set p d))))
    | none => M.bad
  | _ => M.bad
theorem ds_setI {x : Str} {p0 spos : Pos} (i : Nat) (hj : DE m X W ca b fb) (ha : DE m X W ca a fa) (hN : X.N[i]? = some x := by rfl) (hv : Vis X.env.scope x := by first | exact Or.inl rfl | exact Or.inr (Or.inl rfl) | exact Or.inr (Or.inr rfl)) (hd : (x == ("__debug__" : Str)) = false := by decide)
    (hcd : (x == ("__classdict__" : Str)) = false := by decide) (hsw : swapsWithSole [.Subscript (.Name x p0) b spos] a pos.line X.env = pure false := by rfl) (hsw2 : swappedStores [.Subscript (.Name x p0) b spos] a X.env = pure none := by rfl)
    (h1 : (assignEach [.Subscript (.Name x p0) b spos] X.env).map (·.2) = [assign (.Subscript (.Name x p0) b spos) X.env] := by rfl)
    (has : ∀ v, assign (.Subscript (.Name x p0) b spos) X.env v = (do
      let ov ← holding [v] (eval (.Name x p0) X.env)
      let iv ← holding [v, ov] (eval b X.env)
      standAt spos
      holding [v, ov, iv] (setItem ov iv v)
      release [v, ov, iv] []) := by intro _; rfl) :
    DS m X W ca (.Assign [.Subscript (.Name x p0) b spos] a pos) (sSetI i fb fa) := by
  obtain ⟨t, p, k⟩ := ha
  obtain ⟨t2, p2, k2⟩ := hj
  refine ⟨_, ps_asg p (pg_sub (pe_var hN hv hd hcd) p2 set_list has) hsw hsw2 h1, fun g0 g S σ env e0 hS hE D h => ?_⟩
  obtain ⟨xs, e, h⟩ := onO_get h
  obtain ⟨q, vs, es, hq, r, hn⟩ := hE.lst e
  refine k g0.H g S σ env hS hE _ (sat_mono (stE e0 hE h) (fun d S1 z g1 v e1 s1 r1 => ?_) fun _ _ q => q)
  have z := z g1 e1
  obtain ⟨hn1, hq1⟩ := hn.ext hq e1
  refine ⟨_, es, ?_⟩
  refine k2 g0.H g1 S1 σ env s1 (hE.ext e1) _ (sat_mono (stE (e0.trans e1) (hE.ext e1) z) (fun j S2 z g2 u e2 s2 r2 => ?_) fun _ _ q => q)
  have z := z g2 e2
  obtain ⟨hn2, hq2⟩ := hn1.ext hq1 e2
  cases j with
  | int n =>
    cases r2
    dsimp only at z
    cases e5 : ixN xs.length n with
    | none => rw [e5] at z; exact z.elim
    | some pp =>
      rw [e5] at z
      exact ⟨q, vs, n, pp, rfl, rfl, hq2, by rw [r.length]; exact e5, wr_nx (W := W) ((e0.trans e1).trans e2) s2 ((hE.ext e1).ext e2) e es hq2 hn2 (RpA.set pp (e2.rp r1) (e2.rpA (e1.rpA r))) z⟩
  | _ => exact z.elim
end

/-! ### defs -/
inductive Res where
  | f (d : D) | o (xs : List D)
abbrev Fn := List D → M Res
def RpR (g g' : G) (v : V) : Res → Prop
  | .f d => Rp g'.F g'.p v d
  | .o xs => ∃ q vs, v = .ref q ∧ g.H q = none ∧ g'.H q = some (.lst vs) ∧ g'.F q = none ∧ (∀ l, g'.p l ≠ some q) ∧ RpA g'.F g'.p vs xs
def okR (m : Bool) (ca : Ct) (g : G) (Q : VK) : Res → Store → Prop := fun r S' => ∀ g' v, Ext m g g' → SOk ca g' S' → RpR g g' v r → Q v g'.H
def exR (m : Bool) (ca : Ct) (g : G) (E : XK) : Str → Store → Prop := fun c S' => ∀ g', Ext m g g' → SOk ca g' S' → E (.ref (ca c)) none g'.H
/-- what a def promises: f tells what it gives -/
def spOf (m : Bool) (ca : Ct) (n : Nat) (f : Fn) : Sp := fun vs H Q E => vs.length = n ∧ ∃ g S ds, g.H = H ∧ SOk ca g S ∧ RpA g.F g.p vs ds ∧ (f ds S).sat (okR m ca g Q) (exR m ca g E)
def evs (ds : List D) : En := ds.map EV.f
theorem evs_nil : evs [] = [] := rfl
theorem evs_cons (d : D) (ds : List D) : evs (d :: ds) = .f d :: evs ds := rfl
def initE (n : Nat) (ds : List D) : En := evs ds ++ List.replicate (n - ds.length) EV.u
def fnD (n : Nat) (body : En → M Fl) : Fn := fun ds => M.bind (quiet (body (initE n ds))) fun fl => match fl with
  | .nx _ => M.ret (.f .non)
  | .rt d => M.ret (.f d)
  | .rtO xs => M.ret (.o xs)
  | .ex c _ => M.raise c
  | _ => M.bad
theorem env_start {H0 : Hp} {g : G} {N : List Str} {vs : List V} {ds : List D} (r : RpA g.F g.p vs ds) : EnvOk H0 g (L2.start N vs) (initE N.length ds) := by
  have hl := r.length
  refine ⟨by simp [L2.start, initE, evs, hl], fun i v w a b => ?_, fun i j v w w' ne a b c d o o' => ?_⟩
  · unfold L2.start at a
    unfold initE evs at b
    by_cases hi : i < ds.length
    · rw [List.getElem?_append_left (by simpa [hl] using hi), List.getElem?_map] at a
      rw [List.getElem?_append_left (by simpa using hi), List.getElem?_map, List.getElem?_eq_getElem hi] at b
      cases b
      obtain ⟨x, h1, h2⟩ := r.get i (List.getElem?_eq_getElem hi)
      rw [h1] at a; cases a
      exact ⟨x, rfl, h2⟩
    · rw [List.getElem?_append_right (by simpa using hi), List.getElem?_replicate] at b
      split at b
      · cases b; trivial
      · cases b
  · unfold initE evs at c
    by_cases hi : i < ds.length
    · rw [List.getElem?_append_left (by simpa using hi), List.getElem?_map, List.getElem?_eq_getElem hi] at c
      cases c; cases o
    · rw [List.getElem?_append_right (by simpa using hi), List.getElem?_replicate] at c
      split at c
      · cases c; cases o
      · cases c
section
variable {P : Program} {w : World} {K : PySem.W.Frag} {mg : Str → Option Value} {base : Heap}
abbrev FnD (P : Program) (w : World) (K : PySem.W.Frag) (mg : Str → Option Value) (base : Heap) (k : Nat) (fa : Addr) (fd : FuncData) (ps : List Str) (m : Bool) (ca : Ct) (f : Fn) : Prop := FnOk P w K mg base (L2.CX P w) k fa fd ps (spOf m ca ps.length f)
theorem fn_mkD {x qual : Str} {st : Stmt} {fa : Addr} {fd : FuncData} {N ps : List Str} {k : Nat} {m : Bool} {ca : Ct} {body : En → M Fl} (F : Fun K x qual st fa fd) (S : FnScope N ps (defScope st))
    (h : ∀ (cdv : Value) (A : Around) (outer : List PySem.Env) (s : Shared) (H : Hp) (E : XK), Room k (A.deeper (envOfC qual (defScope st) s.heap.objs.size fa cdv)) →
      Takes (cxOf (L2.CX P w) P w K mg base N qual (defScope st) fa cdv A outer s H E) (fun cls d _ H => E cls d H) → PassesOwn (model P w) (A.deeper (envOfC qual (defScope st) s.heap.objs.size fa cdv)) (envOfC qual (defScope st) s.heap.objs.size fa cdv) (cxOf (L2.CX P w) P w K mg base N qual (defScope st) fa cdv A outer s H E).xe →
      DSs m (cxOf (L2.CX P w) P w K mg base N qual (defScope st) fa cdv A outer s H E) (fun cls d _ H => E cls d H) ca (defBody st) body) :
    FnD P w K mg base (k + 1) fa fd ps m ca (fnD N.length body) := by
  refine F.okX S (fun vs H Q E q => q.1) (fun cdv A outer s H vs Q E hr q => ?_)
  obtain ⟨hl, g, S', ds, rfl, hS, r, k⟩ := q
  obtain ⟨t, p, kk⟩ := h cdv A outer s g.H E hr (takes_of rfl rfl rfl rfl) (passes_of rfl)
  refine ⟨t, p, kk g g S' _ _ (Ext.refl g) hS (env_start r) _ (sat_mono (sat_quiet (E' := noX) (sat_bind k)) (fun fl S1 q => ?_) fun _ _ q => q)⟩
  · cases fl with
    | nx env => exact fun g' σ' e _ s1 _ => (show okR m ca g Q (.f .non) S1 from q) g' _ e s1 .non
    | rt d => exact fun g' v e _ s1 r => (show okR m ca g Q (.f d) S1 from q) g' v e s1 r
    | rtO xs => exact fun g' l vs e _ s1 h1 h2 h3 h4 h5 => (show okR m ca g Q (.o xs) S1 from q) g' _ e s1 ⟨l, vs, rfl, h1, h2, h3, h4, h5⟩
    | ex c env => exact fun g' σ' e _ s1 _ => (show exR m ca g E c S1 from q) g' e s1
    | bk env => exact q.elim
    | ct env => exact q.elim
theorem FnD.to {k : Nat} {fa : Addr} {fd : FuncData} {ps : List Str} {m : Bool} {ca : Ct} {f f' : Fn} (F : FnD P w K mg base k fa fd ps m ca f) (h : ∀ ds S, f' ds S ≠ .bad → f ds S = f' ds S) : FnD P w K mg base k fa fd ps m ca f' :=
  F.imp fun vs H Q E q => by
    obtain ⟨hl, g, S, ds, e, hS, r, k⟩ := q
    refine ⟨hl, g, S, ds, e, hS, r, ?_⟩
    rw [h ds S (fun z => by rw [z] at k; exact k)]
    exact k
end
end Dn

namespace Dn
open PySem L2 PyProof.Rows

/-! ### calls of defs -/
def Res.d : Res → D
  | .f d => d
  | .o xs => .lst xs
def eFn (f : Fn) (a : En → M (List D)) : En → M D := fun env => M.bind (a env) fun ds => M.bind (f ds) fun r => M.ret r.d
def oFn (f : Fn) (a : En → M (List D)) : En → M (List D) := fun env => M.bind (a env) fun ds => M.bind (f ds) fun r => match r with
  | .o xs => M.ret xs
  | .f _ => M.bad
theorem sok_ret {m : Bool} {ca : Ct} {g g' : G} {S : Store} {v : V} {r : Res} {Q : VK} (e : Ext m g g') (hS : SOk ca g' S) (h : RpR g g' v r) (q : okE m ca g Q r.d S) : Q v g'.H := by
  cases r with
  | f d => exact q g' v e hS h
  | o xs =>
    obtain ⟨l, vs, rfl, h1, h2, h3, h4, h5⟩ := h
    exact q (g'.fr l (.lst vs)) _ (ext_fr e h1 h3) (sok_fr hS h2 h3 h4) (rp_lst h3 h5)
/-- the callee writes nothing, or the caller may -/
def Fits (m m' : Bool) : Prop := m = true → m' = true
theorem Ext.fit {m m' : Bool} (h : Fits m m') {g g' : G} (e : Ext m' g g') : Ext m g g' := ⟨e.same, e.stay, e.obs, e.dom, fun z => e.pure (h z)⟩
section
variable {m m' : Bool} {X : Cx} {W : WX} {ca : Ct} {a e : Expr} {es : List Expr} {fa : En → M D} {fs : En → M (List D)} {pos p : Pos} {k : Nat} {f : Addr} {fd : FuncData} {ps : List Str} {fn : Fn} {x : Str}
theorem spOf_run {g : G} {S : Store} {σ : L2.St} {vs : List V} {ds : List D} {Q : VK} (hl : vs.length = ps.length) (hm : Fits m m') (hS : SOk ca g S) (r : RpA g.F g.p vs ds) (h : (fn ds S).sat (fun r S' => okE m ca g Q r.d S') (exE m ca W g σ)) : spOf m' ca ps.length fn vs g.H Q (WE W σ) :=
  ⟨hl, g, S, ds, rfl, hS, r, sat_mono h (fun r S' q g' v e s h => sok_ret (e.fit hm) s h q) fun c S' q g' e s => q g' (e.fit hm) s⟩
theorem spOf_runO {g : G} {S : Store} {σ : L2.St} {vs : List V} {ds : List D} {Q : VK} (hl : vs.length = ps.length) (hm : Fits m m') (hS : SOk ca g S) (r : RpA g.F g.p vs ds) (h : (fn ds S).sat (fun r S' => ∃ xs, r = .o xs ∧ okO m ca g Q xs S') (exE m ca W g σ)) : spOf m' ca ps.length fn vs g.H Q (WE W σ) :=
  ⟨hl, g, S, ds, rfl, hS, r, sat_mono h (fun r S' ⟨xs, er, q⟩ g' v e s h => by
    subst er
    obtain ⟨l, vs, rfl, h1, h2, h3, h4, h5⟩ := h
    exact q g' l vs (e.fit hm) s h1 h2 h3 h4 h5) fun c S' q g' e s => q g' (e.fit hm) s⟩
theorem de_call (F : FnD X.prog X.w X.K X.mg X.base k f fd ps m' ca fn) (hm' : Fits m m') (hn : (e :: es).length = ps.length) (hr : Room k X.A) (hm : X.mg x = some (.ref f)) (hk : PySem.W.keepIn X.K (.ref f) = true) (hb : Binds X.K fd ps []) (tk : Takes X W) (ha : DA m X W ca (e :: es) fs)
    (hln : ∀ env S ds S', fs env S = .ok ds S' → ds.length = (e :: es).length)
    (hg : Gl X x := by rfl) (hdb : (x == ("__debug__" : Str)) = false := by decide) (he : starEach (e :: es) X.env = (false, eval e X.env) :: starEach es X.env := by rfl) (hpl : (backTo pos (starEach es X.env)).any (·.1) = false := by rfl) :
    DE m X W ca (.Call (.Name x p) (e :: es) [] pos) (eFn fn fs) := by
  obtain ⟨t, pa, ka⟩ := ha
  refine ⟨_, pe_callS (E := WE W) F hr hg hm hk hb (fun σ => passAt tk σ) pa hdb he hpl, fun H0 g S σ env hS hE Q h => ?_⟩
  cases e1 : fs env S with
  | bad => unfold eFn M.bind at h; rw [e1] at h; exact h.elim
  | exc c S1 =>
    refine ka H0 g S σ env hS hE _ ?_
    rw [e1]
    unfold eFn M.bind at h
    rw [e1] at h
    exact h
  | ok ds S1 =>
    refine ka H0 g S σ env hS hE _ ?_
    have h2 := seqE h
    rw [e1] at h2 ⊢
    intro g1 vs e2 s1 r1
    refine spOf_run (by rw [r1.length, hln _ _ _ _ e1]; exact hn) hm' s1 r1 (sat_mono (sat_bind (h2 g1 e2)) (fun r S2 q => q) fun c S2 q => q)
theorem do_call (F : FnD X.prog X.w X.K X.mg X.base k f fd ps m' ca fn) (hm' : Fits m m') (hn : (e :: es).length = ps.length) (hr : Room k X.A) (hm : X.mg x = some (.ref f)) (hk : PySem.W.keepIn X.K (.ref f) = true) (hb : Binds X.K fd ps []) (tk : Takes X W) (ha : DA m X W ca (e :: es) fs)
    (hln : ∀ env S ds S', fs env S = .ok ds S' → ds.length = (e :: es).length)
    (hg : Gl X x := by rfl) (hdb : (x == ("__debug__" : Str)) = false := by decide) (he : starEach (e :: es) X.env = (false, eval e X.env) :: starEach es X.env := by rfl) (hpl : (backTo pos (starEach es X.env)).any (·.1) = false := by rfl) :
    DO m X W ca (.Call (.Name x p) (e :: es) [] pos) (oFn fn fs) := by
  obtain ⟨t, pa, ka⟩ := ha
  refine ⟨_, pe_callS (E := WE W) F hr hg hm hk hb (fun σ => passAt tk σ) pa hdb he hpl, fun H0 g S σ env hS hE Q h => ?_⟩
  cases e1 : fs env S with
  | bad => unfold oFn M.bind at h; rw [e1] at h; exact h.elim
  | exc c S1 =>
    refine ka H0 g S σ env hS hE _ ?_
    rw [e1]
    unfold oFn M.bind at h
    rw [e1] at h
    exact h
  | ok ds S1 =>
    refine ka H0 g S σ env hS hE _ ?_
    have h2 := seqO h
    rw [e1] at h2 ⊢
    intro g1 vs e2 s1 r1
    refine spOf_runO (by rw [r1.length, hln _ _ _ _ e1]; exact hn) hm' s1 r1 (sat_mono (sat_bind (h2 g1 e2)) (fun r S2 q => ?_) fun c S2 q => q)
    cases r with
    | o xs => exact ⟨xs, rfl, q⟩
    | f d => exact q.elim
/-- how many arguments come -/
theorem aNil_len : ∀ (env : En) (S : Store) (ds : List D) (S' : Store), aNil env S = .ok ds S' → ds.length = 0 := fun env S ds S' h => by cases h; rfl
theorem aCons_len {n : Nat} (h : ∀ (env : En) (S : Store) (ds : List D) (S' : Store), fs env S = .ok ds S' → ds.length = n) : ∀ (env : En) (S : Store) (ds : List D) (S' : Store), aCons fa fs env S = .ok ds S' → ds.length = n + 1 := fun env S ds S' e => by
  unfold aCons M.bind at e
  cases e1 : fa env S with
  | bad => rw [e1] at e; cases e
  | exc c S1 => rw [e1] at e; cases e
  | ok d S1 =>
    rw [e1] at e
    dsimp only at e
    cases e2 : fs env S1 with
    | bad => rw [e2] at e; cases e
    | exc c S1 => rw [e2] at e; cases e
    | ok r S2 =>
      rw [e2] at e; cases e
      rw [List.length_cons, h _ _ _ _ e2]

/-! ### texts -/
theorem lim_big {n : Nat} (h : n ≤ lim) : n ≤ 16777216 := Nat.le_trans h (by decide)
/-- s.m(e), s a text -/
def eM1 (op : Str → D → Option D) (a b : En → M D) : En → M D := fun env => M.bind (a env) fun x => match x with
  | .str s => M.bind (b env) fun y => M.lift (op s y)
  | _ => M.bad
def RelM (r : V → List V → Hp → VK → Prop) (op : Str → D → Option D) : Prop := ∀ (m : Bool) (ca : Ct) (g : G) (S : Store) (s : Str) (y : V) (dy z : D) (Q : VK), SOk ca g S → Rb m g y dy → op s dy = some z → okE m ca g Q z S → r (.str s) [y] g.H Q
theorem runM {b : Expr} {fb : En → M D} {r : V → List V → Hp → VK → Prop} {op : Str → D → Option D} {ta tb : TE} (ho : RelM r op)
    (ka : ∀ H0 g S σ env, SOk ca g S → EnvOk H0 g σ env → ∀ Q : VK, (fa env S).sat (okB m ca g Q) (exE m ca W g σ) → ta σ g.H Q)
    (kb : ∀ H0 g S σ env, SOk ca g S → EnvOk H0 g σ env → ∀ Q : VK, (fb env S).sat (okB m ca g Q) (exE m ca W g σ) → tb σ g.H Q) :
    ∀ H0 g S σ env, SOk ca g S → EnvOk H0 g σ env → ∀ Q : VK, (eM1 op fa fb env S).sat (okE m ca g Q) (exE m ca W g σ) → tM1 r ta tb σ g.H Q := fun H0 g S σ env hS hE Q h => by
  refine ka H0 g S σ env hS hE _ (sat_mono (seqE h) (fun x S1 q g1 v e1 s1 r1 => ?_) fun _ _ q => q)
  have q := q g1 e1
  cases x with
  | str s =>
    cases r1.str
    refine ⟨⟨s, rfl⟩, ?_⟩
    refine kb H0 g1 S1 σ env s1 (hE.ext e1) _ (sat_mono (seqE q) (fun y S2 q2 g2 u e2 s2 r2 => ?_) fun _ _ q => q)
    obtain ⟨z, hz, k⟩ := sat_lift (q2 g2 e2)
    exact ho m ca g2 S2 s u y z Q s2 r2 hz k
  | _ => exact q.elim
def joinO (s : Str) : D → Option D
  | .lst ys => (strsD ys).bind fun zs => if (zs.map (·.length)).sum + zs.length * s.length ≤ lim then some (.str (Txt.join s zs)) else none
  | _ => none
theorem rel_join {K : PySem.W.Frag} : RelM (fun x xs H Q => ∃ a p, ∃ ys : List Str, x = .str a ∧ xs = [.ref p] ∧ (SqL K H p (ys.map V.str) ∨ SqT K H p (ys.map V.str)) ∧ (ys.map (·.length)).sum + ys.length * a.length ≤ 16777216 ∧ Q (.str (Txt.join a ys)) H) joinO := fun m ca g S s y dy z Q hS r e k => by
  cases dy with
  | lst ys =>
    have e : ((strsD ys).bind fun zs => if (zs.map (·.length)).sum + zs.length * s.length ≤ lim then some (D.str (Txt.join s zs)) else none) = some z := e
    cases e1 : strsD ys with
    | none => rw [e1] at e; cases e
    | some zs =>
      rw [e1, Option.bind_some] at e
      split at e
      · rename_i c
        cases e
        obtain ⟨a, vs, rfl, h1, h2⟩ := r.lst hS
        cases strs_v h2 e1
        exact ⟨s, a, zs, rfl, rfl, .inl (SqL.of h1), lim_big c, k g _ (Ext.refl _) hS (.str _)⟩
      · cases e
  | _ => cases e
theorem de_join {b : Expr} {fb : En → M D} {apos : Pos} (ha : DB m X W ca a fa) (hb : DB m X W ca b fb) (hs : starEach [b] X.env = [(false, eval b X.env)] := by rfl) (hbase : attributeBase a "join" X.env (eval a X.env) = eval a X.env := by rfl) (hline : (apos.endLine == pos.line) = true := by rfl) :
    DE m X W ca (.Call (.Attribute a "join" apos) [b] [] pos) (eM1 joinO fa fb) := by
  obtain ⟨ta, pa, ka⟩ := ha
  obtain ⟨tb, pb, kb⟩ := hb
  exact ⟨_, pe_join pa pb hs hbase hline, runM (b := b) rel_join ka kb⟩
/-- s.split(sep), a new list -/
def oSplit (a b : En → M D) : En → M (List D) := fun env => M.bind (a env) fun x => match x with
  | .str s => M.bind (b env) fun y => match y with
    | .str t => if t.length ≠ 0 ∧ s.length + 2 ≤ lim then M.ret ((Txt.split s t).map D.str) else M.bad
    | _ => M.bad
  | _ => M.bad
theorem rpA_strs {F : Hp} {q : Pi} : ∀ (xs : List Str), RpA F q (xs.map V.str) (xs.map D.str)
  | [] => .nil
  | x :: xs => .cons (.str x) (rpA_strs xs)
end
end Dn

namespace Dn
open PySem L2 PyProof.Rows
section
variable {q m : Bool} {X : Cx} {W : WX} {ca : Ct} {a b e : Expr} {fa fb : En → M D} {pos : Pos} {st : Stmt} {f : En → M Fl}
/-! ### a list or a text cut -/
def eSlA (a : En → M D) (lo hi : En → M (Option Int)) : En → M D := fun env => M.bind (a env) fun x => M.bind (lo env) fun l => M.bind (hi env) fun u => match x with
  | .lst xs => M.ret (.lst (cutD xs l u))
  | .scr ns => M.ret (.lst ((cutI ns l u).map D.int))
  | .str s => if s.length ≤ lim then M.ret (.str (cutS s l u)) else M.bad
  | _ => M.bad
theorem de_slA {lo hi : Option Expr} {fl fh : En → M (Option Int)} {p2 : Pos} (ha : DB m X W ca a fa) (hl : DP m X W ca lo fl) (hh : DP m X W ca hi fh) (hK : ca.K = X.K := by rfl) : DE m X W ca (.Subscript a (.Slice lo hi none p2) pos) (eSlA fa fl fh) := by
  obtain ⟨t1, p1, k1⟩ := ha
  obtain ⟨t2, q2, k2⟩ := hl
  obtain ⟨t3, p3, k3⟩ := hh
  refine ⟨_, pe_slice (sl_list.or sl_str) p1 q2 p3, fun H0 g S σ env hS hE Q h => ?_⟩
  refine k1 H0 g S σ env hS hE _ (sat_mono (seqE h) (fun x S1 q g1 v e1 s1 r1 => ?_) fun _ _ q => q)
  refine k2 H0 g1 S1 σ env s1 (hE.ext e1) _ (sat_mono (seqE (q g1 e1)) (fun l S2 q g2 e2 s2 => ?_) fun _ _ q => q)
  refine k3 H0 g2 S2 σ env s2 (hE.ext (e1.trans e2)) _ (sat_mono (seqE (q g2 e2)) (fun u S3 q g3 e3 s3 => ?_) fun _ _ q => q)
  have q := q g3 e3
  have r1 := r1.ext s3 (e2.trans e3)
  cases x with
  | lst xs =>
    obtain ⟨a, vs, rfl, h, t⟩ := r1.lst s3
    refine .inl ⟨a, vs, rfl, SqL.of h, fun z hz => ?_⟩
    exact (show okE m ca g3 Q (.lst (cutD xs l u)) S3 from q) (g3.fz z _) _ (ext_fz s3 hz _) (sok_fz s3 hz _) (rp_lst (s3.free hz) (cut_rp t l u))
  | scr ns =>
    have r := r1.h s3
    cases r with
    | scr h =>
      have hq := (s3.sc _ _ h).sq
      rw [hK] at hq
      refine .inl ⟨_, _, rfl, hq, fun z hz => ?_⟩
      have e9 : cutD (ns.map D.int) l u = (cutI ns l u).map D.int := by unfold cutD cutI; simp [List.map_take, List.map_drop]
      refine (show okE m ca g3 Q (.lst ((cutI ns l u).map D.int)) S3 from q) (g3.fz z _) _ (ext_fz s3 hz _) (sok_fz s3 hz _) (rp_lst (s3.free hz) ?_)
      rw [← e9]
      exact cut_rp (RpA.ints ns) l u
  | str xs =>
    cases r1.str
    dsimp only at q
    by_cases c : xs.length ≤ lim
    · rw [if_pos c] at q
      exact .inr ⟨xs, rfl, lim_lt c, (show okE m ca g3 Q (.str (cutS xs l u)) S3 from q) g3 _ (Ext.refl _) s3 (.str _)⟩
    · rw [if_neg c] at q; exact q.elim
  | _ => exact q.elim
/-! ### list(x), tuple(x) -/
def oListF (a : En → M D) : En → M (List D) := fun env => M.bind (a env) fun x => match x with
  | .lst xs => M.ret xs
  | .tup xs => M.ret xs
  | _ => M.bad
theorem do_listF {p : Pos} (ha : DB m X W ca a fa) (hK : ca.K = X.K := by rfl) (hg : Gl X "list" := by rfl) (hm : X.mg "list" = none := by assumption) (hs : starEach [a] X.env = (false, eval a X.env) :: starEach [] X.env := by rfl) : DO m X W ca (.Call (.Name "list" p) [a] [] pos) (oListF fa) := by
  obtain ⟨t, pa, k⟩ := ha
  refine ⟨_, pe_callTy call_list_of hg hm (by decide +kernel) (pa_cons pa pa_nil hs) (he := hs), fun H0 g S σ env hS hE Q h => ?_⟩
  refine k H0 g S σ env hS hE _ (sat_mono (seqO h) (fun x S1 q g1 v e1 s1 r1 => ?_) fun _ _ q => q)
  have q := q g1 e1
  cases x with
  | lst xs =>
    obtain ⟨l, vs, rfl, h1, h2⟩ := r1.lst s1
    exact ⟨l, vs, rfl, .inl (SqL.of h1), fun z hz => (show okO m ca g1 Q xs S1 from q) (g1.nw z _) z _ (ext_nw s1 hz _) (sok_nw s1 hz _) hz upd_same (s1.free hz) (s1.nop hz) h2⟩
  | tup xs =>
    obtain ⟨l, vs, rfl, h1, h2⟩ := r1.tup s1
    exact ⟨l, vs, rfl, .inr (SqT.of h1), fun z hz => (show okO m ca g1 Q xs S1 from q) (g1.nw z _) z _ (ext_nw s1 hz _) (sok_nw s1 hz _) hz upd_same (s1.free hz) (s1.nop hz) h2⟩
  | _ => exact q.elim
def eTupF (a : En → M D) : En → M D := fun env => M.bind (a env) fun x => match x with
  | .lst xs => M.ret (.tup xs)
  | .tup xs => M.ret (.tup xs)
  | _ => M.bad
theorem de_tupF {p : Pos} (ha : DB m X W ca a fa) (hK : ca.K = X.K := by rfl) (hg : Gl X "tuple" := by rfl) (hm : X.mg "tuple" = none := by assumption) (hs : starEach [a] X.env = (false, eval a X.env) :: starEach [] X.env := by rfl) : DE m X W ca (.Call (.Name "tuple" p) [a] [] pos) (eTupF fa) := by
  obtain ⟨t, pa, k⟩ := ha
  refine ⟨_, pe_callTy call_tuple_of hg hm (by decide +kernel) (pa_cons pa pa_nil hs) (he := hs), fun H0 g S σ env hS hE Q h => ?_⟩
  refine k H0 g S σ env hS hE _ (sat_mono (seqE h) (fun x S1 q g1 v e1 s1 r1 => ?_) fun _ _ q => q)
  have q := q g1 e1
  cases x with
  | lst xs =>
    obtain ⟨l, vs, rfl, h1, h2⟩ := r1.lst s1
    exact ⟨l, vs, rfl, .inl ⟨SqL.of h1, fun z hz => (show okE m ca g1 Q (.tup xs) S1 from q) (g1.fz z _) _ (ext_fz s1 hz _) (sok_fz s1 hz _) (rp_tup (s1.free hz) h2)⟩⟩
  | tup xs =>
    rcases r1 with r1 | ⟨_, _, _, _, h, _⟩ | ⟨_, _, _, _, h, _⟩
    · cases r1 with
      | tup h1 h2 => exact ⟨_, _, rfl, .inr ⟨SqT.of (s1.same _ _ h1), (show okE m ca g1 Q (.tup xs) S1 from q) g1 _ (Ext.refl _) s1 (.tup h1 h2)⟩⟩
    · cases h
    · cases h
  | _ => exact q.elim
/-! ### split, index -/
theorem do_split {apos : Pos} (ha : DB m X W ca a fa) (hb : DB m X W ca b fb) (hs : starEach [b] X.env = [(false, eval b X.env)] := by rfl) (hbase : attributeBase a "split" X.env (eval a X.env) = eval a X.env := by rfl) (hline : (apos.endLine == pos.line) = true := by rfl) :
    DO m X W ca (.Call (.Attribute a "split" apos) [b] [] pos) (oSplit fa fb) := by
  obtain ⟨ta, pa, ka⟩ := ha
  obtain ⟨tb, pb, kb⟩ := hb
  refine ⟨_, pe_split pa pb hs hbase hline, fun H0 g S σ env hS hE Q h => ?_⟩
  refine ka H0 g S σ env hS hE _ (sat_mono (seqO h) (fun x S1 q g1 v e1 s1 r1 => ?_) fun _ _ q => q)
  have q := q g1 e1
  cases x with
  | str s =>
    cases r1.str
    refine ⟨⟨s, rfl⟩, ?_⟩
    refine kb H0 g1 S1 σ env s1 (hE.ext e1) _ (sat_mono (seqO q) (fun y S2 q2 g2 u e2 s2 r2 => ?_) fun _ _ q => q)
    have q2 := q2 g2 e2
    cases y with
    | str t =>
      cases r2.str
      dsimp only at q2
      by_cases c : t.length ≠ 0 ∧ s.length + 2 ≤ lim
      · rw [if_pos c] at q2
        refine ⟨s, t, rfl, rfl, by simpa using c.1, lim_lt c.2, fun z hz => ?_⟩
        exact (show okO m ca g2 Q ((Txt.split s t).map D.str) S2 from q2) (g2.nw z _) z _ (ext_nw s2 hz _) (sok_nw s2 hz _) hz upd_same (s2.free hz) (s2.nop hz) (rpA_strs _)
      · rw [if_neg c] at q2; exact q2.elim
    | _ => exact q2.elim
  | _ => exact q.elim
def findF (x : D) : List D → Option Nat
  | [] => none
  | y :: ys => if eqF y x = true then some 0 else (findF x ys).map (· + 1)
theorem findF_is {x : D} : ∀ {ys : List D} {j : Nat}, findF x ys = some j → (∃ z, ys[j]? = some z ∧ eqF z x = true) ∧ ∀ m z, m < j → ys[m]? = some z → eqF z x = false
  | [], _, h => by cases h
  | y :: ys, j, h => by
    unfold findF at h
    by_cases c : eqF y x = true
    · rw [if_pos c] at h; cases h
      exact ⟨⟨y, rfl, c⟩, fun m z hm => absurd hm (Nat.not_lt_zero _)⟩
    · rw [if_neg c] at h
      cases e : findF x ys with
      | none => rw [e] at h; cases h
      | some i =>
        rw [e] at h; cases h
        obtain ⟨⟨z, h1, h2⟩, h3⟩ := findF_is e
        refine ⟨⟨z, by simpa using h1, h2⟩, fun m w hm hw => ?_⟩
        cases m with
        | zero => cases hw; simpa using c
        | succ m => exact h3 m w (Nat.lt_of_succ_lt_succ hm) (by simpa using hw)
def eIndex (a b : En → M D) : En → M D := fun env => M.bind (a env) fun x => M.bind (b env) fun y => match x with
  | .lst xs => if flatD y = true ∧ xs.all flatD = true then M.lift ((findF y xs).map fun j => .int (j : Nat)) else M.bad
  | _ => M.bad
/-! ### walks of anything -/
def iA (a : En → M D) : En → M (List D) := fun env => M.bind (a env) fun x => match x with
  | .lst xs => M.ret xs
  | .scr ns => M.ret (ns.map D.int)
  | .tup xs => M.ret xs
  | .str s => M.ret (signsD s)
  | _ => M.bad
theorem pi_or {tg : Expr} {w1 w2 : TI} (h1 : PI X tg a w1) (h2 : PI X tg a w2) : PI X tg a (fun σ H R => w1 σ H R ∨ w2 σ H R) := ⟨fun pins s σ H R I h => by
  rcases h with h | h
  · exact h1.run pins s σ H R I h
  · exact h2.run pins s σ H R I h⟩
theorem di_any (ha : DE m X W ca a fa) (hK : ca.K = X.K := by rfl) : DI q m X W ca a (iA fa) := by
  obtain ⟨w1, p1, k1⟩ := di_list (q := q) ha hK
  obtain ⟨w2, p2, k2⟩ := di_tup (q := q) ha
  obtain ⟨w3, p3, k3⟩ := di_str (q := q) ha
  refine ⟨_, fun tg => pi_or (p1 tg) (pi_or (p2 tg) (p3 tg)), fun H0 g S σ env hS hE R h => ?_⟩
  unfold iA at h
  cases e : fa env S with
  | bad => unfold M.bind at h; rw [e] at h; exact h.elim
  | exc c S' => exact .inl (k1 H0 g S σ env hS hE R (by unfold iL; unfold M.bind at h ⊢; rw [e] at h ⊢; exact h))
  | ok x S' =>
    cases x with
    | lst xs => exact .inl (k1 H0 g S σ env hS hE R (by unfold iL; unfold M.bind at h ⊢; rw [e] at h ⊢; exact h))
    | scr xs => exact .inl (k1 H0 g S σ env hS hE R (by unfold iL; unfold M.bind at h ⊢; rw [e] at h ⊢; exact h))
    | tup xs => exact .inr (.inl (k2 H0 g S σ env hS hE R (by unfold iT; unfold M.bind at h ⊢; rw [e] at h ⊢; exact h)))
    | str xs => exact .inr (.inr (k3 H0 g S σ env hS hE R (by unfold iS; unfold M.bind at h ⊢; rw [e] at h ⊢; exact h)))
    | _ => unfold M.bind at h; rw [e] at h; exact h.elim
/-! ### targets' lengths, a list made data at once, a tuple unpacked -/
theorem bNil_len : ∀ (ds : List D) (env env' : En), bNil ds env = some env' → ds.length = 0 := fun ds env env' h => by
  cases ds with
  | nil => rfl
  | cons _ _ => cases h
theorem bCons_len {b : D → En → Option En} {r : List D → En → Option En} {n : Nat} (h : ∀ (ds : List D) (env env' : En), r ds env = some env' → ds.length = n) : ∀ (ds : List D) (env env' : En), bCons b r ds env = some env' → ds.length = n + 1 := fun ds env env' e => by
  cases ds with
  | nil => cases e
  | cons d ds =>
    have e : (b d env).bind (r ds) = some env' := e
    cases e1 : b d env with
    | none => rw [e1] at e; cases e
    | some env1 =>
      rw [e1] at e
      rw [List.length_cons, h _ _ _ e]
def sThenFz (i : Nat) (f : En → M Fl) : En → M Fl := fun env => M.bind (f env) fun fl => match fl with
  | .nx env' => M.ret (.nx (fzE i env'))
  | o => M.ret o
theorem ds_thenFz (i : Nat) (h : DS m X W ca st f) : DS m X W ca st (sThenFz i f) := by
  obtain ⟨t, p, k⟩ := h
  refine ⟨t, p, fun g0 g S σ env e0 hS hE D h => ?_⟩
  refine k g0 g S σ env e0 hS hE D (sat_mono (sat_bind h) (fun fl S1 q => ?_) fun _ _ q => q)
  cases fl with
  | nx env' =>
    intro g' σ' e1 m1 s1 hE1
    obtain ⟨g'', h1, h2, h3, h4, h5⟩ := fz_ok i e1 s1 hE1
    rw [← h1]
    exact (show okS m ca W g0 g D (.nx (fzE i env')) S1 from q) g'' σ' h2 (m1.trans h3) h4 h5
  | rt d => exact q
  | rtO xs => exact q
  | bk env' => exact q
  | ct env' => exact q
  | ex c env' => exact q
def sUnp (a : En → M D) (b : D → En → Option En) : En → M Fl := fun env => liftS (a env) env fun d => match b d env with
  | some env' => M.ret (.nx env')
  | none => M.bad
theorem ds_unp {tg : Expr} {bb : D → En → Option En} {ks : List Nat} (ha : DE m X W ca a fa) (hg : DG X tg bb ks) (hs : swapsWithSole [tg] a pos.line X.env = pure false := by rfl) (hw : swappedStores [tg] a X.env = pure none := by rfl)
    (h1 : (assignEach [tg] X.env).map (·.2) = [assign tg X.env] := by rfl) : DS m X W ca (.Assign [tg] a pos) (sUnp fa bb) := by
  obtain ⟨t, p, k⟩ := ha
  obtain ⟨t2, p2, k2⟩ := hg
  refine ⟨_, ps_asg p p2 hs hw h1, fun g0 g S σ env e0 hS hE D h => ?_⟩
  refine k g0.H g S σ env hS hE _ (sat_mono (stE e0 hE h) (fun d S1 q g1 v e1 s1 r1 => ?_) fun _ _ q => q)
  have q := q g1 e1
  cases eb : bb d env with
  | none => rw [eb] at q; exact q.elim
  | some env' =>
    rw [eb] at q
    exact k2 g0.H g1 σ env v d env' s1.same (hE.ext e1) r1 eb _ fun σ' hE' _ => (show okS m ca W g0 g1 D (.nx env') S1 from q) g1 σ' (e0.trans e1) (Mo.refl _) s1 hE'
end
end Dn

namespace Dn
open PySem L2 PyProof.Rows
/-! ### plain laws of the denotations -/
theorem bind_ok {α β : Type} {c : M α} {k : α → M β} {S S' : Store} {a : α} (h : c S = .ok a S') : M.bind c k S = k a S' := by unfold M.bind; rw [h]
theorem liftS_ok {α : Type} {c : M α} {env : En} {k : α → M Fl} {S S' : Store} {a : α} (h : c S = .ok a S') : liftS c env k S = k a S' := by unfold liftS; rw [h]
theorem liftS_exc {α : Type} {c : M α} {env : En} {k : α → M Fl} {S S' : Store} {x : Str} (h : c S = .exc x S') : liftS c env k S = .ok (.ex x env) S' := by unfold liftS; rw [h]
theorem quiet_ok {α : Type} {c : M α} {S S' : Store} {a : α} (h : c S = .ok a S') : quiet c S = .ok a S' := by unfold quiet; rw [h]
theorem sCons_nx {f r : En → M Fl} {env env' : En} {S S' : Store} (h : f env S = .ok (.nx env') S') : sCons f r env S = r env' S' := by unfold sCons; rw [bind_ok h]
theorem sCons_rt {f r : En → M Fl} {env : En} {d : D} {S S' : Store} (h : f env S = .ok (.rt d) S') : sCons f r env S = .ok (.rt d) S' := by unfold sCons; rw [bind_ok h]; rfl
theorem sCons_ex {f r : En → M Fl} {env env' : En} {c : Str} {S S' : Store} (h : f env S = .ok (.ex c env') S') : sCons f r env S = .ok (.ex c env') S' := by unfold sCons; rw [bind_ok h]; rfl
theorem lcD_eval {b : D → En → Option En} {t : En → M Bool} {elt : En → M D} {env : En} (p : D → Bool) (f : D → D) {S : Store} : ∀ (ds acc : List D),
    (∀ d ∈ ds, ∃ env1, b d env = some env1 ∧ t env1 S = .ok (p d) S ∧ (p d = true → elt env1 S = .ok (f d) S)) → acc.length + ds.length ≤ lim → lcD b t elt env ds acc S = .ok (acc ++ (ds.filter p).map f) S
  | [], acc, _, _ => by simp [lcD, M.ret]
  | d :: ds, acc, h, hl => by
    obtain ⟨env1, h1, h2, h3⟩ := h d List.mem_cons_self
    have hl' : acc.length + (ds.length + 1) ≤ lim := by simpa using hl
    unfold lcD
    rw [h1]
    show M.bind _ _ S = _
    rw [bind_ok (quiet_ok h2)]
    cases e : p d with
    | false =>
      rw [if_neg (by simp), lcD_eval p f ds acc (fun d hd => h d (List.mem_cons_of_mem _ hd)) (by omega), List.filter_cons, if_neg (by rw [e]; simp)]
    | true =>
      rw [if_pos rfl, bind_ok (quiet_ok (h3 e))]
      rw [if_pos (show acc.length < lim by omega), lcD_eval p f ds (acc ++ [f d]) (fun d hd => h d (List.mem_cons_of_mem _ hd)) (by simp; omega), List.filter_cons, if_pos e]
      simp
theorem forD_ind {body : En → M Fl} {b : D → En → Option En} (I : List D → En → Store → Prop) (Post : Fl → Store → Prop) (hd : ∀ env S, I [] env S → Post (.nx env) S)
    (hs : ∀ d ds env S, I (d :: ds) env S → ∃ env1, b d env = some env1 ∧ ∃ fl S', body env1 S = .ok fl S' ∧ match fl with
      | .nx e => I ds e S'
      | .ct e => I ds e S'
      | .bk e => Post (.nx e) S'
      | o => Post o S') : ∀ ds env S, I ds env S → ∃ fl S', forD body b ds env S = .ok fl S' ∧ Post fl S'
  | [], env, S, h => ⟨_, _, rfl, hd env S h⟩
  | d :: ds, env, S, h => by
    obtain ⟨env1, h1, fl, S', h2, h3⟩ := hs d ds env S h
    unfold forD
    rw [h1]
    show ∃ fl S', M.bind _ _ S = _ ∧ _
    rw [bind_ok h2]
    cases fl with
    | nx e => exact forD_ind I Post hd hs ds e S' h3
    | ct e => exact forD_ind I Post hd hs ds e S' h3
    | bk e => exact ⟨_, _, rfl, h3⟩
    | rt d => exact ⟨_, _, rfl, h3⟩
    | rtO d => exact ⟨_, _, rfl, h3⟩
    | ex c e => exact ⟨_, _, rfl, h3⟩
/-! ### texts as lists of signs -/
abbrev tx (l : List Nat) : Str := ⟨l.toArray⟩
theorem tx_len (l : List Nat) : (tx l).length = l.length := by simp [Str.length]
theorem tx_of (s : Str) : tx s.cps.toList = s := rfl
theorem tx_inj {a b : List Nat} (h : tx a = tx b) : a = b := by
  have := congrArg (fun x : Str => x.cps.toList) h
  simpa using this
theorem tx_app (a b : List Nat) : tx a ++ tx b = tx (a ++ b) := TL.ext_tl (TL.tl_append (tx a) (tx b))
theorem ordO_one (c : Nat) : ordO [.str ⟨#[c]⟩] = some (.int c) := rfl
theorem ix_sign {l : List Nat} {i : Nat} {c : Nat} (h : l[i]? = some c) (hl : l.length ≤ lim) : ixD (.str (tx l)) (.int (i : Int)) = some (.str ⟨#[c]⟩) := by
  show (if (tx l).length ≤ lim then (atI l (i : Int)).map fun c => D.str ⟨#[c]⟩ else none) = _
  rw [if_pos (by rw [tx_len]; exact hl), atI_nat h]
  rfl
/-- a sign of a written text -/
theorem lit_at {s : Str} (l : List Nat) (e : s = tx l) (P : Nat → Bool) (hP : l.all P = true) (hl : l.length ≤ 1000) {i : Int} (h0 : 0 ≤ i) (h1 : i < l.length) : ∃ c, ixD (.str s) (.int i) = some (.str ⟨#[c]⟩) ∧ P c = true ∧ l[i.toNat]? = some c := by
  obtain ⟨j, rfl⟩ : ∃ j : Nat, i = j := ⟨i.toNat, by omega⟩
  have hj : j < l.length := by omega
  refine ⟨l[j], ?_, List.all_eq_true.mp hP _ (List.getElem_mem hj), by simp [hj]⟩
  rw [e]
  exact ix_sign (List.getElem?_eq_getElem hj) (Nat.le_trans hl (by decide))
end Dn
namespace Dn
open PySem L2 PyProof.Rows
theorem eqD_str (a b : Str) : eqD (.str a) (.str b) = some (decide (a = b)) := by
  unfold eqD
  rw [if_pos (show scalD _ _ = true ∨ _ from Or.inl rfl)]
  simp [toPy, PyData.eqv]
  rw [Bool.eq_iff_iff]; simp
theorem eqD_int (a b : Int) : eqD (.int a) (.int b) = some (decide (a = b)) := by
  unfold eqD
  rw [if_pos (show scalD _ _ = true ∨ _ from Or.inl rfl)]
  simp [toPy, PyData.eqv]
  rw [Bool.eq_iff_iff]; simp
theorem eqD_bl (a b : Bool) : eqD (.bl a) (.bl b) = some (decide (a = b)) := by
  unfold eqD
  rw [if_pos (show scalD _ _ = true ∨ _ from Or.inl rfl)]
  simp [toPy, PyData.eqv]
  rw [Bool.eq_iff_iff]; simp
theorem neD_str (a b : Str) : neD (.str a) (.str b) = some (!decide (a = b)) := by unfold neD; rw [eqD_str]; rfl
theorem neD_int (a b : Int) : neD (.int a) (.int b) = some (!decide (a = b)) := by unfold neD; rw [eqD_int]; rfl
theorem neD_bl (a b : Bool) : neD (.bl a) (.bl b) = some (!decide (a = b)) := by unfold neD; rw [eqD_bl]; rfl
theorem blsD_map : ∀ (bs : List Bool), blsD (bs.map D.bl) = some bs
  | [] => rfl
  | b :: bs => by simp [blsD, blsD_map bs]
theorem strsD_map : ∀ (bs : List Str), strsD (bs.map D.str) = some bs
  | [] => rfl
  | b :: bs => by simp [strsD, strsD_map bs]
theorem intsD_map : ∀ (bs : List Int), intsD (bs.map D.int) = some bs
  | [] => rfl
  | b :: bs => by simp [intsD, intsD_map bs]
theorem inD_sign (c : Nat) (l : List Nat) : inD (.str ⟨#[c]⟩) (.str (tx l)) = some (decide (c ∈ l)) := by
  show some (inStr ⟨#[c]⟩ (tx l)) = _
  unfold inStr
  rw [← show (decide (c ∈ (tx l).cps.toList)) = decide (c ∈ l) from rfl, PySem.StrLaws.found_one (tx l) c]
theorem ninD_sign (c : Nat) (l : List Nat) : ninD (.str ⟨#[c]⟩) (.str (tx l)) = some (!decide (c ∈ l)) := by unfold ninD; rw [inD_sign]; rfl
theorem lenO_tx (l : List Nat) (h : l.length ≤ lim) : lenO [.str (tx l)] = some (.int l.length) := by
  show (if (tx l).length ≤ lim then some (D.int (tx l).length) else none) = _
  rw [tx_len, if_pos h]
theorem signs_tx (l : List Nat) : signsD (tx l) = l.map fun c => .str ⟨#[c]⟩ := rfl
/-- the joined signs -/
theorem joinL_nil : ∀ ls : List (List Nat), TL.joinL [] ls = ls.flatten
  | [] => rfl
  | [p] => by simp [TL.joinL]
  | p :: q :: r => by
    show p ++ ([] ++ TL.joinL [] (q :: r)) = _
    rw [joinL_nil (q :: r)]
    simp
theorem join_tx (ls : List (List Nat)) : Txt.join (tx []) (ls.map tx) = tx ls.flatten := by
  refine TL.ext_tl ?_
  rw [TL.join_eq, TL.tl_join, List.map_map]
  have : (TL.tl ∘ tx) = (id : List Nat → List Nat) := by funext l; rfl
  rw [this, List.map_id]
  exact joinL_nil ls
end Dn
/-! ### the monad's laws -/
namespace Dn
open PySem L2 PyProof.Rows
section
variable {α β : Type}
theorem ret_bind (a : α) (k : α → M β) : M.bind (M.ret a) k = k a := rfl
theorem bad_bind (k : α → M β) : M.bind (M.bad : M α) k = M.bad := rfl
theorem raise_bind (c : Str) (k : α → M β) : M.bind (M.raise c : M α) k = M.raise c := rfl
theorem ite_bind (c : Prop) [Decidable c] (x y : M α) (k : α → M β) : M.bind (if c then x else y) k = if c then M.bind x k else M.bind y k := by split <;> rfl
theorem lift_some (a : α) : M.lift (some a) = M.ret a := rfl
theorem lift_none : M.lift (none : Option α) = M.bad := rfl
theorem lift_ite (c : Prop) [Decidable c] (x y : Option α) : M.lift (if c then x else y) = if c then M.lift x else M.lift y := by split <;> rfl
theorem liftS_ret (a : α) (env : En) (k : α → M Fl) : liftS (M.ret a) env k = k a := rfl
theorem liftS_bad (env : En) (k : α → M Fl) : liftS (M.bad : M α) env k = M.bad := rfl
theorem liftS_raise (c : Str) (env : En) (k : α → M Fl) : liftS (M.raise c : M α) env k = M.ret (.ex c env) := rfl
theorem liftS_ite (c : Prop) [Decidable c] (x y : M α) (env : En) (k : α → M Fl) : liftS (if c then x else y) env k = if c then liftS x env k else liftS y env k := by split <;> rfl
theorem quiet_ret (a : α) : quiet (M.ret a) = M.ret a := rfl
theorem quiet_bad : quiet (M.bad : M α) = M.bad := rfl
theorem quiet_ite (c : Prop) [Decidable c] (x y : M α) : quiet (if c then x else y) = if c then quiet x else quiet y := by split <;> rfl
theorem bind_assoc' {γ : Type} (x : M α) (k : α → M β) (h : β → M γ) : M.bind (M.bind x k) h = M.bind x fun a => M.bind (k a) h := by
  funext S
  unfold M.bind
  cases x S <;> rfl
theorem liftS_bind (x : M β) (k : β → M α) (env : En) (h : α → M Fl) : liftS (M.bind x k) env h = liftS x env fun a => liftS (k a) env h := by
  funext S
  unfold liftS M.bind
  cases x S <;> rfl
theorem ite_app {γ : Type} (c : Prop) [Decidable c] (x y : γ → β) (z : γ) : (if c then x else y) z = if c then x z else y z := by split <;> rfl
end
/-- a comprehension whose parts are known -/
theorem lcD_ret {b : D → En → Option En} {t : En → M Bool} {elt : En → M D} {env : En} (p : D → Bool) (f : D → D) (ds : List D)
    (h : ∀ d ∈ ds, ∃ env1, b d env = some env1 ∧ t env1 = M.ret (p d) ∧ (p d = true → elt env1 = M.ret (f d))) (hl : ds.length ≤ lim) : lcD b t elt env ds [] = M.ret ((ds.filter p).map f) := by
  funext S
  rw [lcD_eval p f ds [] (fun d hd => by
    obtain ⟨e, h1, h2, h3⟩ := h d hd
    exact ⟨e, h1, by rw [h2]; rfl, fun z => by rw [h3 z]; rfl⟩) (by simpa using hl)]
  rfl
/-- .. over what is encoded, without a test -/
theorem lcD_map {α : Type} {b : D → En → Option En} {elt : En → M D} {env : En} (xs : List α) (enc : α → D) (f : α → D) (hl : xs.length ≤ lim) (h : ∀ x ∈ xs, ∃ env1, b (enc x) env = some env1 ∧ elt env1 = M.ret (f x)) : lcD b tYesD elt env (xs.map enc) [] = M.ret (xs.map f) := by
  have key : ∀ (xs : List α) (acc : List D), (∀ x ∈ xs, ∃ env1, b (enc x) env = some env1 ∧ elt env1 = M.ret (f x)) → acc.length + xs.length ≤ lim → lcD b tYesD elt env (xs.map enc) acc = M.ret (acc ++ xs.map f) := by
    intro xs
    induction xs with
    | nil => intro acc _ _; simp [lcD]
    | cons x xs ih =>
      intro acc h hl
      obtain ⟨e, h1, h2⟩ := h x List.mem_cons_self
      have hl : acc.length + (xs.length + 1) ≤ lim := by simpa using hl
      rw [List.map_cons]
      unfold lcD
      rw [h1]
      show M.bind (quiet (M.ret true)) _ = _
      rw [quiet_ret, ret_bind, if_pos rfl, h2, quiet_ret, ret_bind, if_pos (show acc.length < lim by omega), ih _ (fun y hy => h y (List.mem_cons_of_mem _ hy)) (by simp; omega)]
      simp
  simpa using key xs [] h (by simpa using hl)
/-- a loop that carries a state -/
theorem forD_fold {α σ : Type} {body : En → M Fl} {b : D → En → Option En} (enc : α → D) (ev : σ → En) (step : σ → α → σ) (xs : List α) (h : ∀ s, ∀ x ∈ xs, ∃ env1, b (enc x) (ev s) = some env1 ∧ body env1 = M.ret (.nx (ev (step s x)))) :
    ∀ s, forD body b (xs.map enc) (ev s) = M.ret (.nx (ev (xs.foldl step s))) := by
  induction xs with
  | nil => intro s; rfl
  | cons x xs ih =>
    intro s
    obtain ⟨e, h1, h2⟩ := h s x List.mem_cons_self
    rw [List.map_cons]
    unfold forD
    rw [h1]
    show M.bind (body e) _ = _
    rw [h2, ret_bind]
    exact ih (fun s y hy => h s y (List.mem_cons_of_mem _ hy)) _
/-- a loop that looks for something -/
theorem forD_find {α : Type} {body : En → M Fl} {b : D → En → Option En} (enc : α → D) (hit : α → Option D) (I : En → Prop) : ∀ (xs : List α) (env : En), I env → (∀ env, I env → ∀ x ∈ xs, ∃ env1, b (enc x) env = some env1 ∧ match hit x with
      | some d => body env1 = M.ret (.rt d)
      | none => ∃ env2, body env1 = M.ret (.nx env2) ∧ I env2) →
    (∃ d, xs.findSome? hit = some d ∧ forD body b (xs.map enc) env = M.ret (.rt d)) ∨ (xs.findSome? hit = none ∧ ∃ env', I env' ∧ forD body b (xs.map enc) env = M.ret (.nx env'))
  | [], env, i, _ => .inr ⟨rfl, env, i, rfl⟩
  | x :: xs, env, i, h => by
    obtain ⟨e, h1, h2⟩ := h env i x List.mem_cons_self
    rw [List.map_cons]
    unfold forD
    rw [h1]
    cases hx : hit x with
    | some d =>
      rw [hx] at h2
      refine .inl ⟨d, by rw [List.findSome?_cons, hx], ?_⟩
      show M.bind (body e) _ = _
      rw [h2, ret_bind]
    | none =>
      rw [hx] at h2
      obtain ⟨env2, h3, h4⟩ := h2
      rw [List.findSome?_cons, hx]
      have ih := forD_find enc hit I xs env2 h4 fun env i y hy => h env i y (List.mem_cons_of_mem _ hy)
      have e2 : M.bind (body e) (fun fl => match fl with
        | .nx e => forD body b (xs.map enc) e
        | .ct e => forD body b (xs.map enc) e
        | .bk e => M.ret (.nx e)
        | o => M.ret o) = forD body b (xs.map enc) env2 := by rw [h3, ret_bind]
      rcases ih with ⟨d, h5, h6⟩ | ⟨h5, env', h6, h7⟩
      · exact .inl ⟨d, h5, e2.trans h6⟩
      · exact .inr ⟨h5, env', h6, e2.trans h7⟩
end Dn
namespace Dn
open PySem L2 PyProof.Rows
theorem tx_eq_nil (l : List Nat) : (tx l = Str.ofString "") = (l = []) := propext ⟨fun h => tx_inj (h.trans (show Str.ofString "" = tx [] from rfl)), fun h => by subst h; rfl⟩
theorem allO_map {α : Type} (xs : List α) (g : α → Bool) : allO [.lst (xs.map fun x => .bl (g x))] = some (.bl (xs.all g)) := by
  have e : (xs.map fun x => D.bl (g x)) = (xs.map g).map D.bl := by simp
  show (blsD (xs.map fun x => D.bl (g x))).map (fun bs => D.bl (bs.all id)) = _
  rw [e, blsD_map]
  simp
end Dn

namespace Dn
open PySem L2 PyProof.Rows
/-! ### equations with the store applied: what is after a step stays asleep -/
section
variable {α β γ : Type}
def bindR (r : R α) (k : α → M β) : R β := match r with
  | .ok a S => k a S
  | .exc c S => .exc c S
  | .bad => .bad
def liftR (r : R α) (env : En) (k : α → M Fl) : R Fl := match r with
  | .ok a S => k a S
  | .exc c S => .ok (.ex c env) S
  | .bad => .bad
theorem bind_S (c : M α) (k : α → M β) (S : Store) : M.bind c k S = bindR (c S) k := rfl
theorem liftS_S (c : M α) (env : En) (k : α → M Fl) (S : Store) : liftS c env k S = liftR (c S) env k := rfl
theorem bindR_ok (a : α) (S : Store) (k : α → M β) : bindR (.ok a S) k = k a S := rfl
theorem bindR_exc (c : Str) (S : Store) (k : α → M β) : bindR (.exc c S) k = .exc c S := rfl
theorem bindR_bad (k : α → M β) : bindR .bad k = .bad := rfl
theorem liftR_ok (a : α) (S : Store) (env : En) (k : α → M Fl) : liftR (.ok a S) env k = k a S := rfl
theorem liftR_exc (c : Str) (S : Store) (env : En) (k : α → M Fl) : liftR (.exc c S) env k = .ok (.ex c env) S := rfl
theorem liftR_bad (env : En) (k : α → M Fl) : liftR .bad env k = .bad := rfl
theorem ret_S (a : α) (S : Store) : M.ret a S = .ok a S := rfl
theorem bad_S (S : Store) : (M.bad : M α) S = .bad := rfl
theorem raise_S (c : Str) (S : Store) : (M.raise c : M α) S = .exc c S := rfl
theorem lift_some_S (a : α) (S : Store) : M.lift (some a) S = .ok a S := rfl
theorem lift_none_S (S : Store) : M.lift (none : Option α) S = .bad := rfl
def quietR (r : R α) : R α := match r with
  | .ok a S' => .ok a S'
  | _ => .bad
theorem quiet_S (c : M α) (S : Store) : quiet c S = quietR (c S) := rfl
theorem quietR_ok (a : α) (S : Store) : quietR (.ok a S) = .ok a S := rfl
theorem quietR_exc (c : Str) (S : Store) : quietR (.exc c S : R α) = .bad := rfl
theorem quietR_bad : quietR (.bad : R α) = .bad := rfl
theorem ite_S (c : Prop) [Decidable c] (x y : M α) (S : Store) : (if c then x else y) S = if c then x S else y S := by split <;> rfl
theorem forD_nil_S (body : En → M Fl) (b : D → En → Option En) (env : En) (S : Store) : forD body b [] env S = .ok (.nx env) S := rfl
theorem forD_cons_S (body : En → M Fl) (b : D → En → Option En) (d : D) (ds : List D) (env : En) (S : Store) : forD body b (d :: ds) env S = (match b d env with
    | none => M.bad
    | some env1 => M.bind (body env1) fun fl => match fl with
      | .nx e => forD body b ds e
      | .ct e => forD body b ds e
      | .bk e => M.ret (.nx e)
      | o => M.ret o) S := rfl
end
theorem eO_S (f : En → M (List D)) (env : En) (S : Store) : eO f env S = (M.bind (f env) fun xs => M.ret (.lst xs) : M D) S := rfl
theorem eVar_S (i : Nat) (env : En) (S : Store) : eVar i env S = (match env[i]? with
    | some (.f d) => M.ret d
    | _ => M.bad : M D) S := rfl
theorem eC_S (d : D) (env : En) (S : Store) : eC d env S = (M.ret d : M D) S := rfl
theorem eVarB_S (i : Nat) (env : En) (S : Store) : eVarB i env S = (match env[i]? with
    | some (.f d) => M.ret d
    | some (.o xs) => M.ret (.lst xs)
    | some (.k xs) => M.ret (.dct xs)
    | _ => M.bad : M D) S := rfl
theorem aNil_S  (env : En) (S : Store) : aNil  env S = (M.ret [] : M (List D)) S := rfl
theorem aCons_S (f : En → M D) (r : En → M (List D)) (env : En) (S : Store) : aCons f r env S = (M.bind (f env) fun d => M.bind (r env) fun ds => M.ret (d :: ds) : M (List D)) S := rfl
theorem eTup_S (a : En → M (List D)) (env : En) (S : Store) : eTup a env S = (M.bind (a env) fun ds => if ds.length ≤ lim then M.ret (.tup ds) else M.bad : M D) S := rfl
theorem eLst_S (a : En → M (List D)) (env : En) (S : Store) : eLst a env S = (M.bind (a env) fun ds => if ds.length ≤ lim then M.ret ds else M.bad : M (List D)) S := rfl
theorem eBin_S (op : D → D → Option D) (a b : En → M D) (env : En) (S : Store) : eBin op a b env S = (M.bind (a env) fun x => M.bind (b env) fun y => M.lift (op x y) : M D) S := rfl
theorem tBin_S (op : D → D → Option Bool) (a b : En → M D) (env : En) (S : Store) : tBin op a b env S = (M.bind (a env) fun x => M.bind (b env) fun y => M.lift (op x y) : M Bool) S := rfl
theorem oCat_S (a b : En → M D) (env : En) (S : Store) : oCat a b env S = (M.bind (a env) fun x => M.bind (b env) fun y => match x, y with
    | .lst xs, .lst ys => if xs.length + ys.length ≤ lim then M.ret (xs ++ ys) else M.bad
    | _, _ => M.bad : M (List D)) S := rfl
theorem tAndD_S (a b : En → M Bool) (env : En) (S : Store) : tAndD a b env S = (M.bind (a env) fun x => if x = true then b env else M.ret false : M Bool) S := rfl
theorem tOrD_S (a b : En → M Bool) (env : En) (S : Store) : tOrD a b env S = (M.bind (a env) fun x => if x = true then M.ret true else b env : M Bool) S := rfl
theorem tNotD_S (a : En → M Bool) (env : En) (S : Store) : tNotD a env S = (M.bind (a env) fun x => M.ret (!x) : M Bool) S := rfl
theorem eAndD_S (a b : En → M D) (env : En) (S : Store) : eAndD a b env S = (M.bind (a env) fun x => match x with
    | .bl k => if k = true then b env else M.ret (.bl false)
    | _ => M.bad : M D) S := rfl
theorem eOrD_S (a b : En → M D) (env : En) (S : Store) : eOrD a b env S = (M.bind (a env) fun x => match x with
    | .bl k => if k = true then M.ret (.bl true) else b env
    | _ => M.bad : M D) S := rfl
theorem eNotD_S (a : En → M D) (env : En) (S : Store) : eNotD a env S = (M.bind (a env) fun x => match x with
    | .bl k => M.ret (.bl (!k))
    | _ => M.bad : M D) S := rfl
theorem eNegD_S (a : En → M D) (env : En) (S : Store) : eNegD a env S = (M.bind (a env) fun x => match x with
    | .int k => M.ret (.int (-k))
    | _ => M.bad : M D) S := rfl
theorem tValD_S (a : En → M D) (env : En) (S : Store) : tValD a env S = (M.bind (a env) fun x => M.lift (truD x) : M Bool) S := rfl
theorem eIfD_S (c : En → M Bool) (a b : En → M D) (env : En) (S : Store) : eIfD c a b env S = (M.bind (c env) fun x => if x = true then a env else b env : M D) S := rfl
theorem oPart_S (o : Option (En → M D)) (env : En) (S : Store) : oPart o env S = (match o with
    | none => fun _ => M.ret none
    | some f => fun env => M.bind (f env) fun x => match x with
      | .int i => M.ret (some i)
      | _ => M.bad) env S := rfl
theorem oSl_S (a : En → M D) (lo hi : En → M (Option Int)) (env : En) (S : Store) : oSl a lo hi env S = (M.bind (a env) fun x => M.bind (lo env) fun l => M.bind (hi env) fun u => match x with
    | .lst xs => M.ret (cutD xs l u)
    | .scr ns => M.ret ((cutI ns l u).map D.int)
    | _ => M.bad : M (List D)) S := rfl
theorem eSl_S (a : En → M D) (lo hi : En → M (Option Int)) (env : En) (S : Store) : eSl a lo hi env S = (M.bind (a env) fun x => M.bind (lo env) fun l => M.bind (hi env) fun u => match x with
    | .str s => if s.length ≤ lim then M.ret (.str (cutS s l u)) else M.bad
    | _ => M.bad : M D) S := rfl
theorem eCall_S (op : List D → Option D) (fs : En → M (List D)) (env : En) (S : Store) : eCall op fs env S = (M.bind (fs env) fun ds => M.lift (op ds) : M D) S := rfl
theorem isiO_S (T : String) (a : En → M D) (env : En) (S : Store) : isiO T a env S = (M.bind (a env) fun x => M.lift ((tyN x).bind fun t => (kitB t T).map D.bl) : M D) S := rfl
theorem sNil_S  (env : En) (S : Store) : sNil  env S = (M.ret (.nx env) : M Fl) S := rfl
theorem sCons_S (f r : En → M Fl) (env : En) (S : Store) : sCons f r env S = (M.bind (f env) fun fl => match fl with
    | .nx env' => r env'
    | o => M.ret o : M Fl) S := rfl
theorem sExpr_S (a : En → M D) (env : En) (S : Store) : sExpr a env S = (liftS (a env) env fun _ => M.ret (.nx env) : M Fl) S := rfl
theorem sRet_S (a : En → M D) (env : En) (S : Store) : sRet a env S = (liftS (a env) env fun d => M.ret (.rt d) : M Fl) S := rfl
theorem sRetO_S (a : En → M (List D)) (env : En) (S : Store) : sRetO a env S = (liftS (a env) env fun d => M.ret (.rtO d) : M Fl) S := rfl
theorem sRetV_S (i : Nat) (env : En) (S : Store) : sRetV i env S = (match env[i]? with
    | some (.f d) => M.ret (.rt d)
    | some (.o xs) => M.ret (.rtO xs)
    | _ => M.bad : M Fl) S := rfl
theorem sRetN_S  (env : En) (S : Store) : sRetN  env S = (M.ret (.rt .non) : M Fl) S := rfl
theorem sIf_S (c : En → M Bool) (t u : En → M Fl) (env : En) (S : Store) : sIf c t u env S = (liftS (c env) env fun b => if b = true then t env else u env : M Fl) S := rfl
theorem sBrk_S  (env : En) (S : Store) : sBrk  env S = (M.ret (.bk env) : M Fl) S := rfl
theorem sCnt_S  (env : En) (S : Store) : sCnt  env S = (M.ret (.ct env) : M Fl) S := rfl
theorem sSet_S (i : Nat) (a : En → M D) (env : En) (S : Store) : sSet i a env S = (liftS (a env) env fun d => M.ret (.nx (env.set i (.f d))) : M Fl) S := rfl
theorem sSetO_S (i : Nat) (a : En → M (List D)) (env : En) (S : Store) : sSetO i a env S = (liftS (a env) env fun d => M.ret (.nx (env.set i (.o d))) : M Fl) S := rfl
theorem sFz_S (i : Nat) (f : En → M Fl) (env : En) (S : Store) : sFz i f env S = (f (fzE i env) : M Fl) S := rfl
theorem iL_S (a : En → M D) (env : En) (S : Store) : iL a env S = (M.bind (a env) fun x => match x with
    | .lst xs => M.ret xs
    | .scr ns => M.ret (ns.map D.int)
    | _ => M.bad : M (List D)) S := rfl
theorem iT_S (a : En → M D) (env : En) (S : Store) : iT a env S = (M.bind (a env) fun x => match x with
    | .tup xs => M.ret xs
    | _ => M.bad : M (List D)) S := rfl
theorem iS_S (a : En → M D) (env : En) (S : Store) : iS a env S = (M.bind (a env) fun x => match x with
    | .str s => M.ret (signsD s)
    | _ => M.bad : M (List D)) S := rfl
theorem iR1_S (a : En → M D) (env : En) (S : Store) : iR1 a env S = (M.bind (a env) fun x => match x with
    | .int n => if -1000000 ≤ n ∧ n ≤ 1000000 then M.ret (rng 0 n.toNat) else M.bad
    | _ => M.bad : M (List D)) S := rfl
theorem iR2_S (a b : En → M D) (env : En) (S : Store) : iR2 a b env S = (M.bind (a env) fun x => M.bind (b env) fun y => match x, y with
    | .int i, .int j => if -1000000 ≤ i ∧ i ≤ 1000000 ∧ -1000000 ≤ j ∧ j ≤ 1000000 then M.ret (rng i (j - i).toNat) else M.bad
    | _, _ => M.bad : M (List D)) S := rfl
theorem iR3_S (a b c : En → M D) (env : En) (S : Store) : iR3 a b c env S = (M.bind (a env) fun x => M.bind (b env) fun y => M.bind (c env) fun z => match x, y, z with
    | .int i, .int j, .int k => if k ≠ 0 ∧ k.natAbs < 1073741824 ∧ Builtin.Range.small i j k = true ∧ 0 ≤ Builtin.Range.rangeSize i j k then M.ret (rngC i k (Builtin.Range.rangeSize i j k).toNat) else M.bad
    | _, _, _ => M.bad : M (List D)) S := rfl
theorem sFor_S (it : En → M (List D)) (b : D → En → Option En) (body : En → M Fl) (env : En) (S : Store) : sFor it b body env S = (liftS (it env) env fun ds => forD body b ds env : M Fl) S := rfl
theorem oLc_S (it : En → M (List D)) (b : D → En → Option En) (t : En → M Bool) (elt : En → M D) (vs : List Nat) (env : En) (S : Store) : oLc it b t elt vs env S = (M.bind (it env) fun ds => lcD b t elt (wipeE env vs) ds [] : M (List D)) S := rfl
theorem tYesD_S  (env : En) (S : Store) : tYesD  env S = (M.ret true : M Bool) S := rfl
theorem onO_S (i : Nat) (k : En → List D → M Fl) (env : En) (S : Store) : onO i k env S = (match env[i]? with
    | some (.o xs) => k env xs
    | _ => M.bad : M Fl) S := rfl
theorem sApp_S (i : Nat) (a : En → M D) (env : En) (S : Store) : sApp i a env S = (onO i fun env xs => liftS (a env) env fun d => if xs.length < lim then M.ret (.nx (env.set i (.o (xs ++ [d])))) else M.bad) env S := rfl
theorem sExt_S (i : Nat) (a : En → M D) (env : En) (S : Store) : sExt i a env S = (onO i fun env xs => liftS (a env) env fun d => match d with
    | .lst ys => if xs.length + ys.length ≤ lim then M.ret (.nx (env.set i (.o (xs ++ ys)))) else M.bad
    | _ => M.bad) env S := rfl
theorem sSetI_S (i : Nat) (j a : En → M D) (env : En) (S : Store) : sSetI i j a env S = (onO i fun env xs => liftS (a env) env fun d => liftS (j env) env fun k => match k with
    | .int n => match ixN xs.length n with
      | some p => M.ret (.nx (env.set i (.o (xs.set p d))))
      | none => M.bad
    | _ => M.bad) env S := rfl
theorem eFn_S (f : Fn) (a : En → M (List D)) (env : En) (S : Store) : eFn f a env S = (M.bind (a env) fun ds => M.bind (f ds) fun r => M.ret r.d : M D) S := rfl
theorem oFn_S (f : Fn) (a : En → M (List D)) (env : En) (S : Store) : oFn f a env S = (M.bind (a env) fun ds => M.bind (f ds) fun r => match r with
    | .o xs => M.ret xs
    | .f _ => M.bad : M (List D)) S := rfl
theorem eM1_S (op : Str → D → Option D) (a b : En → M D) (env : En) (S : Store) : eM1 op a b env S = (M.bind (a env) fun x => match x with
    | .str s => M.bind (b env) fun y => M.lift (op s y)
    | _ => M.bad : M D) S := rfl
theorem oSplit_S (a b : En → M D) (env : En) (S : Store) : oSplit a b env S = (M.bind (a env) fun x => match x with
    | .str s => M.bind (b env) fun y => match y with
      | .str t => if t.length ≠ 0 ∧ s.length + 2 ≤ lim then M.ret ((Txt.split s t).map D.str) else M.bad
      | _ => M.bad
    | _ => M.bad : M (List D)) S := rfl
theorem eSlA_S (a : En → M D) (lo hi : En → M (Option Int)) (env : En) (S : Store) : eSlA a lo hi env S = (M.bind (a env) fun x => M.bind (lo env) fun l => M.bind (hi env) fun u => match x with
    | .lst xs => M.ret (.lst (cutD xs l u))
    | .scr ns => M.ret (.lst ((cutI ns l u).map D.int))
    | .str s => if s.length ≤ lim then M.ret (.str (cutS s l u)) else M.bad
    | _ => M.bad : M D) S := rfl
theorem oListF_S (a : En → M D) (env : En) (S : Store) : oListF a env S = (M.bind (a env) fun x => match x with
    | .lst xs => M.ret xs
    | .tup xs => M.ret xs
    | _ => M.bad : M (List D)) S := rfl
theorem eTupF_S (a : En → M D) (env : En) (S : Store) : eTupF a env S = (M.bind (a env) fun x => match x with
    | .lst xs => M.ret (.tup xs)
    | .tup xs => M.ret (.tup xs)
    | _ => M.bad : M D) S := rfl
theorem eIndex_S (a b : En → M D) (env : En) (S : Store) : eIndex a b env S = (M.bind (a env) fun x => M.bind (b env) fun y => match x with
    | .lst xs => if flatD y = true ∧ xs.all flatD = true then M.lift ((findF y xs).map fun j => .int (j : Nat)) else M.bad
    | _ => M.bad : M D) S := rfl
theorem iA_S (a : En → M D) (env : En) (S : Store) : iA a env S = (M.bind (a env) fun x => match x with
    | .lst xs => M.ret xs
    | .scr ns => M.ret (ns.map D.int)
    | .tup xs => M.ret xs
    | .str s => M.ret (signsD s)
    | _ => M.bad : M (List D)) S := rfl
theorem sThenFz_S (i : Nat) (f : En → M Fl) (env : En) (S : Store) : sThenFz i f env S = (M.bind (f env) fun fl => match fl with
    | .nx env' => M.ret (.nx (fzE i env'))
    | o => M.ret o : M Fl) S := rfl
theorem sUnp_S (a : En → M D) (b : D → En → Option En) (env : En) (S : Store) : sUnp a b env S = (liftS (a env) env fun d => match b d env with
    | some env' => M.ret (.nx env')
    | none => M.bad : M Fl) S := rfl
theorem fnD_S (n : Nat) (body : En → M Fl) (ds : List D) (S : Store) : fnD n body ds S = (M.bind (quiet (body (initE n ds))) fun fl => match fl with
  | .nx _ => M.ret (.f .non)
  | .rt d => M.ret (.f d)
  | .rtO xs => M.ret (.o xs)
  | .ex c _ => M.raise c
  | _ => M.bad) S := rfl
end Dn

namespace Dn
open PySem L2 PyProof.Rows
/-! ### loops and comprehensions, with the store applied -/
theorem lcD_test {α : Type} {b : D → En → Option En} {t : En → M Bool} {elt : En → M D} {env : En} {S : Store} (enc : α → D) (p : α → Bool) (f : α → D) : ∀ (xs : List α) (acc : List D),
    (∀ x ∈ xs, ∃ env1, b (enc x) env = some env1 ∧ t env1 S = .ok (p x) S ∧ (p x = true → elt env1 S = .ok (f x) S)) → acc.length + xs.length ≤ lim → lcD b t elt env (xs.map enc) acc S = .ok (acc ++ (xs.filter p).map f) S
  | [], acc, _, _ => by simp [lcD, M.ret]
  | x :: xs, acc, h, hl => by
    obtain ⟨env1, h1, h2, h3⟩ := h x List.mem_cons_self
    have hl' : acc.length + (xs.length + 1) ≤ lim := by simpa using hl
    rw [List.map_cons]
    unfold lcD
    rw [h1]
    show M.bind _ _ S = _
    rw [bind_ok (quiet_ok h2)]
    cases e : p x with
    | false =>
      rw [if_neg (by simp), lcD_test enc p f xs acc (fun d hd => h d (List.mem_cons_of_mem _ hd)) (by omega), List.filter_cons, if_neg (by rw [e]; simp)]
    | true =>
      rw [if_pos rfl, bind_ok (quiet_ok (h3 e))]
      rw [if_pos (show acc.length < lim by omega), lcD_test enc p f xs (acc ++ [f x]) (fun d hd => h d (List.mem_cons_of_mem _ hd)) (by simp; omega), List.filter_cons, if_pos e]
      simp
theorem lcD_all {α : Type} {b : D → En → Option En} {elt : En → M D} {env : En} {S : Store} (xs : List α) (enc : α → D) (f : α → D) (hl : xs.length ≤ lim) (h : ∀ x ∈ xs, ∃ env1, b (enc x) env = some env1 ∧ elt env1 S = .ok (f x) S) : lcD b tYesD elt env (xs.map enc) [] S = .ok (xs.map f) S := by
  rw [lcD_test enc (fun _ => true) f xs [] (fun x hx => by
    obtain ⟨e, h1, h2⟩ := h x hx
    exact ⟨e, h1, rfl, fun _ => h2⟩) (by simpa using hl), List.filter_eq_self.mpr (fun _ _ => rfl)]
  rfl
theorem lcD_flt {α : Type} {b : D → En → Option En} {t : En → M Bool} {elt : En → M D} {env : En} {S : Store} (xs : List α) (enc : α → D) (p : α → Bool) (f : α → D) (hl : xs.length ≤ lim) (h : ∀ x ∈ xs, ∃ env1, b (enc x) env = some env1 ∧ t env1 S = .ok (p x) S ∧ (p x = true → elt env1 S = .ok (f x) S)) : lcD b t elt env (xs.map enc) [] S = .ok ((xs.filter p).map f) S := by
  rw [lcD_test enc p f xs [] h (by simpa using hl)]
  simp
/-- a loop with what stays true of slots and store; it may leave with an answer -/
theorem forD_inv {α : Type} {body : En → M Fl} {b : D → En → Option En} (enc : α → D) (I : List α → En → Store → Prop) (Post : Fl → Store → Prop)
    (hd : ∀ env S, I [] env S → Post (.nx env) S)
    (hs : ∀ x xs env S, I (x :: xs) env S → ∃ env1, b (enc x) env = some env1 ∧ ∃ fl S', body env1 S = .ok fl S' ∧ match fl with
      | .nx e => I xs e S'
      | .ct e => I xs e S'
      | .bk e => Post (.nx e) S'
      | o => Post o S') : ∀ xs env S, I xs env S → ∃ fl S', forD body b (xs.map enc) env S = .ok fl S' ∧ Post fl S'
  | [], env, S, h => ⟨_, _, rfl, hd env S h⟩
  | x :: xs, env, S, h => by
    obtain ⟨env1, h1, fl, S', h2, h3⟩ := hs x xs env S h
    rw [List.map_cons]
    unfold forD
    rw [h1]
    show ∃ fl S', M.bind _ _ S = _ ∧ _
    rw [bind_ok h2]
    cases fl with
    | nx e => exact forD_inv enc I Post hd hs xs e S' h3
    | ct e => exact forD_inv enc I Post hd hs xs e S' h3
    | bk e => exact ⟨_, _, rfl, h3⟩
    | rt d => exact ⟨_, _, rfl, h3⟩
    | rtO d => exact ⟨_, _, rfl, h3⟩
    | ex c e => exact ⟨_, _, rfl, h3⟩
/-- a loop that folds over known states -/
theorem forD_foldS {α σ : Type} {body : En → M Fl} {b : D → En → Option En} (enc : α → D) (ev : σ → En) (st : σ → Store) (step : σ → α → σ) (xs : List α)
    (h : ∀ s, ∀ x ∈ xs, ∃ env1, b (enc x) (ev s) = some env1 ∧ (body env1 (st s) = .ok (.nx (ev (step s x))) (st (step s x)) ∨ body env1 (st s) = .ok (.ct (ev (step s x))) (st (step s x)))) :
    ∀ s, forD body b (xs.map enc) (ev s) (st s) = .ok (.nx (ev (xs.foldl step s))) (st (xs.foldl step s)) := by
  induction xs with
  | nil => intro s; rfl
  | cons x xs ih =>
    intro s
    obtain ⟨e, h1, h2⟩ := h s x List.mem_cons_self
    rw [List.map_cons]
    unfold forD
    rw [h1]
    show M.bind (body e) _ _ = _
    rcases h2 with h2 | h2
    · rw [bind_ok h2]
      exact ih (fun s y hy => h s y (List.mem_cons_of_mem _ hy)) _
    · rw [bind_ok h2]
      exact ih (fun s y hy => h s y (List.mem_cons_of_mem _ hy)) _
/-- a search: the loop leaves with the answer, or goes through -/
theorem forD_seek {α : Type} {body : En → M Fl} {b : D → En → Option En} {S : Store} (enc : α → D) (hit : α → Option D) (I : En → Prop) (xs : List α) (env : En) (i : I env) (h : ∀ env, I env → ∀ x ∈ xs, ∃ env1, b (enc x) env = some env1 ∧ match hit x with
      | some d => body env1 S = .ok (.rt d) S
      | none => ∃ env2, (body env1 S = .ok (.nx env2) S ∨ body env1 S = .ok (.ct env2) S) ∧ I env2) :
    match xs.findSome? hit with
    | some d => forD body b (xs.map enc) env S = .ok (.rt d) S
    | none => ∃ env', I env' ∧ forD body b (xs.map enc) env S = .ok (.nx env') S := by
  induction xs generalizing env with
  | nil => exact ⟨env, i, rfl⟩
  | cons x xs ih =>
    obtain ⟨e, h1, h2⟩ := h env i x List.mem_cons_self
    rw [List.map_cons]
    unfold forD
    rw [h1]
    cases hx : hit x with
    | some d =>
      rw [hx] at h2
      rw [List.findSome?_cons, hx]
      show M.bind (body e) _ S = _
      rw [bind_ok h2]
      rfl
    | none =>
      rw [hx] at h2
      obtain ⟨env2, h3, h4⟩ := h2
      rw [List.findSome?_cons, hx]
      have ih := ih env2 h4 fun env i y hy => h env i y (List.mem_cons_of_mem _ hy)
      have e2 : M.bind (body e) (fun fl => match fl with
        | .nx e => forD body b (xs.map enc) e
        | .ct e => forD body b (xs.map enc) e
        | .bk e => M.ret (.nx e)
        | o => M.ret o) S = forD body b (xs.map enc) env2 S := by
        rcases h3 with h3 | h3 <;> rw [bind_ok h3]
      cases hq : xs.findSome? hit with
      | some d => rw [hq] at ih; exact e2.trans ih
      | none =>
        rw [hq] at ih
        obtain ⟨e', i', q⟩ := ih
        exact ⟨e', i', e2.trans q⟩
end Dn

namespace Dn
open PySem L2 PyProof.Rows
/-! ### plain laws, continued -/
def sgn (c : Nat) : D := .str ⟨#[c]⟩
theorem signs_sgn (l : List Nat) : signsD (tx l) = l.map sgn := rfl
theorem strsD_sgn (l : List Nat) : strsD (l.map sgn) = some (l.map fun c => tx [c]) := by
  have := strsD_map (l.map fun c => tx [c])
  rw [List.map_map] at this
  exact this
theorem flat_one (l : List Nat) : (l.map fun c => [c]).flatten = l := by
  induction l with
  | nil => rfl
  | cons c r ih => simp [ih]
theorem sum_one (l : List Nat) : ((l.map fun c => tx [c]).map (·.length)).sum = l.length := by
  induction l with
  | nil => rfl
  | cons c r ih =>
    simp only [List.map_cons, List.sum_cons, ih, List.length_cons]
    show 1 + r.length = _
    omega
/-- signs joined give the text -/
theorem join_sgn {s : Str} (hs : s = tx []) (l : List Nat) (hl : l.length ≤ lim) : joinO s (.lst (l.map sgn)) = some (.str (tx l)) := by
  subst hs
  show ((strsD (l.map sgn)).bind _) = _
  rw [strsD_sgn]
  show (if ((l.map fun c => tx [c]).map (·.length)).sum + (l.map fun c => tx [c]).length * (tx []).length ≤ lim then some (D.str (Txt.join (tx []) (l.map fun c => tx [c]))) else none) = _
  rw [sum_one, if_pos (by rw [tx_len]; simpa using hl)]
  have := join_tx (l.map fun c => [c])
  rw [List.map_map, flat_one] at this
  exact congrArg (fun x => some (D.str x)) this
theorem sIx_nn (n d : Nat) (k : Int) (h : 0 ≤ k) : HT.sIx n d (some k) = min k.toNat n := by
  show (if k < 0 then _ else _) = _
  rw [if_neg (by omega)]
/-- a slice of a list from one place on -/
theorem cutI_nn (xs : List Int) (a b : Int) (ha : 0 ≤ a) (hb : 0 ≤ b) : cutI xs (some a) (some b) = (xs.take b.toNat).drop a.toNat := by
  unfold cutI
  rw [sIx_nn _ _ _ ha, sIx_nn _ _ _ hb]
  apply List.ext_getElem?
  intro i
  simp only [List.getElem?_take, List.getElem?_drop]
  by_cases h1 : a.toNat ≤ xs.length
  · rw [Nat.min_eq_left h1]
    by_cases h2 : b.toNat ≤ xs.length
    · rw [Nat.min_eq_left h2]
      by_cases h3 : i < b.toNat - a.toNat
      · rw [if_pos h3, if_pos (by omega)]
      · rw [if_neg h3, if_neg (by omega)]
    · rw [Nat.min_eq_right (by omega)]
      by_cases h3 : i < xs.length - a.toNat
      · rw [if_pos h3, if_pos (by omega)]
      · rw [if_neg h3]
        split
        · rw [List.getElem?_eq_none (by omega)]
        · rfl
  · rw [show min a.toNat xs.length = xs.length by omega]
    rw [List.getElem?_eq_none (show xs.length ≤ a.toNat + i by omega), List.getElem?_eq_none (show xs.length ≤ xs.length + i by omega)]
    split <;> split <;> rfl
theorem cutI_len (xs : List Int) (a b : Int) (ha : 0 ≤ a) (hb : 0 ≤ b) : (cutI xs (some a) (some b)).length ≤ (b - a).toNat := by
  rw [cutI_nn _ _ _ ha hb, List.length_drop, List.length_take]
  omega
theorem cutI_le (xs : List Int) (a b : Option Int) : (cutI xs a b).length ≤ xs.length := by
  unfold cutI
  rw [List.length_take, List.length_drop]
  omega
theorem cutI_to (xs : List Int) (a : Int) (ha : 0 ≤ a) : cutI xs (some a) none = xs.drop a.toNat := by
  unfold cutI
  rw [sIx_nn _ _ _ ha]
  show (xs.drop (min a.toNat xs.length)).take (xs.length - min a.toNat xs.length) = _
  by_cases h : a.toNat ≤ xs.length
  · rw [Nat.min_eq_left h, List.take_of_length_le (by simp)]
  · rw [Nat.min_eq_right (by omega), List.drop_eq_nil_of_le (Nat.le_refl _), List.drop_eq_nil_of_le (by omega)]
    simp
theorem cutI_from (xs : List Int) (b : Int) (hb : 0 ≤ b) : cutI xs none (some b) = xs.take b.toNat := by
  unfold cutI
  rw [sIx_nn _ _ _ hb]
  show (xs.drop 0).take (min b.toNat xs.length - 0) = _
  rw [List.drop_zero, Nat.sub_zero]
  by_cases h : b.toNat ≤ xs.length
  · rw [Nat.min_eq_left h]
  · rw [Nat.min_eq_right (by omega), List.take_of_length_le (Nat.le_refl _), List.take_of_length_le (by omega)]
theorem ixN_nn (n : Nat) (i : Int) (h : 0 ≤ i) (h2 : i < n) : ixN n i = some i.toNat := by
  unfold ixN
  rw [if_pos h, if_pos h2]
theorem setD_map {α : Type} (f : α → D) (l : List α) (i : Nat) (a : α) : (l.map f).set i (f a) = (l.set i a).map f := by
  rw [List.map_set]
theorem all_set {α : Type} {l : List α} {P : α → Bool} {a : α} (i : Nat) (h : l.all P = true) (ha : P a = true) : (l.set i a).all P = true := by
  rw [List.all_eq_true] at h ⊢
  intro x hx
  rcases List.mem_or_eq_of_mem_set hx with h1 | h1
  · exact h x h1
  · rw [h1]; exact ha
/-- a place in a list -/
theorem ix_lst {xs : List D} {i : Int} (h : 0 ≤ i) {d : D} (hd : xs[i.toNat]? = some d) : ixD (.lst xs) (.int i) = some d := by
  obtain ⟨j, rfl⟩ : ∃ j : Nat, i = j := ⟨i.toNat, by omega⟩
  exact atI_nat (by simpa using hd)
theorem ix_tup {xs : List D} {i : Int} (h : 0 ≤ i) {d : D} (hd : xs[i.toNat]? = some d) : ixD (.tup xs) (.int i) = some d := by
  obtain ⟨j, rfl⟩ : ∃ j : Nat, i = j := ⟨i.toNat, by omega⟩
  exact atI_nat (by simpa using hd)
theorem ix_scr {xs : List Int} {i : Int} (h : 0 ≤ i) {d : Int} (hd : xs[i.toNat]? = some d) : ixD (.scr xs) (.int i) = some (.int d) := by
  obtain ⟨j, rfl⟩ : ∃ j : Nat, i = j := ⟨i.toNat, by omega⟩
  show (atI xs (j : Int)).map D.int = _
  rw [atI_nat (show xs[j]? = some d by simpa using hd)]
  rfl
theorem rng_len (lo : Int) (n : Nat) : (rng lo n).length = n := by simp [rng]
end Dn

namespace Law
open PySem L2 Dn PyProof.Rows
/-! ### the text: scopes, denotations (printed by gen.py) -/
def top (i : Nat) : Stmt := PySem.Challenge.pw_taskheart_k01_names_and_words.main.body.getD i (.Pass ⟨0, 0, 0, 0⟩)
abbrev st_is_letter : Stmt := (top 3)
abbrev N_is_letter : List Str := ["sign"]
theorem sc_is_letter : FnScope N_is_letter ["sign"] (defScope st_is_letter) := ⟨rfl, rfl, rfl, by decide +kernel, rfl, by decide +kernel, by decide +kernel⟩
abbrev st_is_figure : Stmt := (top 4)
abbrev N_is_figure : List Str := ["sign"]
theorem sc_is_figure : FnScope N_is_figure ["sign"] (defScope st_is_figure) := ⟨rfl, rfl, rfl, by decide +kernel, rfl, by decide +kernel, by decide +kernel⟩
abbrev st_is_name : Stmt := (top 5)
abbrev N_is_name : List Str := ["text", "sign"]
theorem sc_is_name : FnScope N_is_name ["text"] (defScope st_is_name) := ⟨rfl, rfl, rfl, by decide +kernel, rfl, by decide +kernel, by decide +kernel⟩
abbrev st_is_word : Stmt := (top 6)
abbrev N_is_word : List Str := ["text", "sign"]
theorem sc_is_word : FnScope N_is_word ["text"] (defScope st_is_word) := ⟨rfl, rfl, rfl, by decide +kernel, rfl, by decide +kernel, by decide +kernel⟩
abbrev st_law_cell_at : Stmt := (top 8)
abbrev N_law_cell_at : List Str := ["script", "k"]
theorem sc_law_cell_at : FnScope N_law_cell_at ["script", "k"] (defScope st_law_cell_at) := ⟨rfl, rfl, rfl, by decide +kernel, rfl, by decide +kernel, by decide +kernel⟩
abbrev st_law_sign_by : Stmt := (top 9)
abbrev N_law_sign_by : List Str := ["cell", "some"]
theorem sc_law_sign_by : FnScope N_law_sign_by ["cell"] (defScope st_law_sign_by) := ⟨rfl, rfl, rfl, by decide +kernel, rfl, by decide +kernel, by decide +kernel⟩
abbrev st_law_text : Stmt := (top 10)
abbrev N_law_text : List Str := ["script", "size", "letters", "cell", "signs", "k", "sign"]
theorem sc_law_text : FnScope N_law_text ["script"] (defScope st_law_text) := ⟨rfl, rfl, rfl, by decide +kernel, rfl, by decide +kernel, by decide +kernel⟩
abbrev st_law_name : Stmt := (top 11)
abbrev N_law_name : List Str := ["text", "letters", "sign"]
theorem sc_law_name : FnScope N_law_name ["text"] (defScope st_law_name) := ⟨rfl, rfl, rfl, by decide +kernel, rfl, by decide +kernel, by decide +kernel⟩
abbrev st_law_word : Stmt := (top 12)
abbrev N_law_word : List Str := ["text", "sign"]
theorem sc_law_word : FnScope N_law_word ["text"] (defScope st_law_word) := ⟨rfl, rfl, rfl, by decide +kernel, rfl, by decide +kernel, by decide +kernel⟩
abbrev st_law_truth : Stmt := (top 13)
abbrev N_law_truth : List Str := ["found", "due"]
theorem sc_law_truth : FnScope N_law_truth ["found", "due"] (defScope st_law_truth) := ⟨rfl, rfl, rfl, by decide +kernel, rfl, by decide +kernel, by decide +kernel⟩
abbrev st_law_told : Stmt := (top 14)
abbrev N_law_told : List Str := ["text"]
theorem sc_law_told : FnScope N_law_told ["text"] (defScope st_law_told) := ⟨rfl, rfl, rfl, by decide +kernel, rfl, by decide +kernel, by decide +kernel⟩
abbrev st_law : Stmt := (top 15)
abbrev N_law : List Str := ["script", "text"]
theorem sc_law : FnScope N_law ["script"] (defScope st_law) := ⟨rfl, rfl, rfl, by decide +kernel, rfl, by decide +kernel, by decide +kernel⟩
def dn_is_letter : En → M Fl := sRet (eAndD (eBin (obl leD) (eC (.int 97)) (eCall ordO (aCons (eVar 0) (aNil)))) (eBin (obl leD) (eCall ordO (aCons (eVar 0) (aNil))) (eC (.int 122))))
def fn_is_letter : Fn := fnD 1 dn_is_letter
def dn_is_figure : En → M Fl := sRet (eAndD (eBin (obl leD) (eC (.int 48)) (eCall ordO (aCons (eVar 0) (aNil)))) (eBin (obl leD) (eCall ordO (aCons (eVar 0) (aNil))) (eC (.int 57))))
def fn_is_figure : Fn := fnD 1 dn_is_figure
def dn_is_name : En → M Fl := sCons (sIf (tOrD (tBin eqD (eVar 0) (eC (.str ""))) (tOrD (tBin gtD (eCall lenO (aCons (eVar 0) (aNil))) (eC (.int 8))) (tNotD (tValD (eFn (fn_is_letter) (aCons (eBin ixD (eVar 0) (eC (.int 0))) (aNil))))))) (sRet (eC (.bl false))) (sNil)) (sRet (eCall allO (aCons (eO (oLc (iA (eVar 0)) (bName 1) (tYesD) (eOrD (eFn (fn_is_letter) (aCons (eVar 1) (aNil))) (eFn (fn_is_figure) (aCons (eVar 1) (aNil)))) [1])) (aNil))))
def fn_is_name : Fn := fnD 2 dn_is_name
def dn_is_word : En → M Fl := sCons (sIf (tOrD (tBin eqD (eVar 0) (eC (.str ""))) (tBin gtD (eCall lenO (aCons (eVar 0) (aNil))) (eC (.int 12)))) (sRet (eC (.bl false))) (sNil)) (sRet (eCall allO (aCons (eO (oLc (iA (eVar 0)) (bName 1) (tYesD) (eAndD (eBin (obl leD) (eC (.int 33)) (eCall ordO (aCons (eVar 1) (aNil)))) (eAndD (eBin (obl leD) (eCall ordO (aCons (eVar 1) (aNil))) (eC (.int 126))) (eBin (obl neD) (eCall ordO (aCons (eVar 1) (aNil))) (eC (.int 37))))) [1])) (aNil))))
def fn_is_word : Fn := fnD 2 dn_is_word
def dn_law_cell_at : En → M Fl := sCons (sIf (tBin ltD (eVar 1) (eCall lenO (aCons (eVar 0) (aNil)))) (sRet (eBin ixD (eVar 0) (eVar 1))) (sNil)) (sRet (eC (.int 0)))
def fn_law_cell_at : Fn := fnD 2 dn_law_cell_at
def dn_law_sign_by : En → M Fl := sCons (sSet 1 (eC (.str " !\"#$&'()*+,-./0123456789:;<=>?@ABCDEFGHIJKLMNOPQRSTUVWXYZ[\\]^_`"))) (sCons (sSet 1 (eBin addD (eVar 1) (eC (.str "abcdefghijklmnopqrstuvwxyz{|}~\n\t")))) (sRet (eBin ixD (eVar 1) (eBin modD (eVar 0) (eC (.int 96))))))
def fn_law_sign_by : Fn := fnD 2 dn_law_sign_by
def dn_law_text : En → M Fl := sCons (sSet 1 (eBin modD (eFn (fn_law_cell_at) (aCons (eVar 0) (aCons (eC (.int 0)) (aNil)))) (eC (.int 11)))) (sCons (sIf (tBin eqD (eBin modD (eFn (fn_law_cell_at) (aCons (eVar 0) (aCons (eC (.int 1)) (aNil)))) (eC (.int 2))) (eC (.int 1))) (sSet 1 (eBin modD (eFn (fn_law_cell_at) (aCons (eVar 0) (aCons (eC (.int 0)) (aNil)))) (eC (.int 15)))) (sNil)) (sCons (sSet 2 (eC (.str "abcdefghijklmnopqrstuvwxyz0123456789"))) (sCons (sSetO 4 (oLc (iA (eSlA (eVar 0) (oPart (some (eC (.int 4)))) (oPart (some (eBin addD (eC (.int 4)) (eVar 1)))))) (bName 3) (tYesD) (eBin ixD (eVar 2) (eBin modD (eVar 3) (eC (.int 36)))) [3])) (sCons (sSetO 4 (oCat (eVarB 4) (eO (oLc (iR1 (eBin subD (eVar 1) (eCall lenO (aCons (eVarB 4) (aNil))))) (bName 5) (tYesD) (eC (.str "q")) [5])))) (sCons (sIf (tAndD (tBin gtD (eVar 1) (eC (.int 0))) (tBin eqD (eBin modD (eBin divD (eFn (fn_law_cell_at) (aCons (eVar 0) (aCons (eC (.int 1)) (aNil)))) (eC (.int 2))) (eC (.int 2))) (eC (.int 1)))) (sCons (sSet 6 (eFn (fn_law_sign_by) (aCons (eFn (fn_law_cell_at) (aCons (eVar 0) (aCons (eC (.int 3)) (aNil)))) (aNil)))) (sCons (sIf (tBin eqD (eBin modD (eBin divD (eFn (fn_law_cell_at) (aCons (eVar 0) (aCons (eC (.int 1)) (aNil)))) (eC (.int 4))) (eC (.int 2))) (eC (.int 1))) (sSet 6 (eBin ixD (eC (.str "`{/:@\x5b!~ \n\t")) (eBin modD (eFn (fn_law_cell_at) (aCons (eVar 0) (aCons (eC (.int 3)) (aNil)))) (eC (.int 11))))) (sNil)) (sSetI 4 (eBin modD (eFn (fn_law_cell_at) (aCons (eVar 0) (aCons (eC (.int 2)) (aNil)))) (eVar 1)) (eVar 6)))) (sNil)) (sFz 4 (sRet (eM1 joinO (eC (.str "")) (eVar 4)))))))))
def fn_law_text : Fn := fnD 7 dn_law_text
def dn_law_name : En → M Fl := sCons (sSet 1 (eC (.str "abcdefghijklmnopqrstuvwxyz"))) (sCons (sFor (iA (eVar 0)) (bName 2) (sIf (tAndD (tBin ninD (eVar 2) (eVar 1)) (tBin ninD (eVar 2) (eC (.str "0123456789")))) (sRet (eC (.bl false))) (sNil))) (sRet (eAndD (eBin (obl leD) (eC (.int 1)) (eCall lenO (aCons (eVar 0) (aNil)))) (eAndD (eBin (obl leD) (eCall lenO (aCons (eVar 0) (aNil))) (eC (.int 8))) (eBin (obl inD) (eBin ixD (eVar 0) (eC (.int 0))) (eVar 1))))))
def fn_law_name : Fn := fnD 3 dn_law_name
def dn_law_word : En → M Fl := sCons (sFor (iA (eVar 0)) (bName 1) (sIf (tBin inD (eVar 1) (eC (.str " \n\t"))) (sRet (eC (.bl false))) (sNil))) (sRet (eAndD (eBin (obl leD) (eC (.int 1)) (eCall lenO (aCons (eVar 0) (aNil)))) (eBin (obl leD) (eCall lenO (aCons (eVar 0) (aNil))) (eC (.int 12)))))
def fn_law_word : Fn := fnD 2 dn_law_word
def dn_law_truth : En → M Fl := sRet (eAndD (isiO "bool" (eVar 0)) (eBin (obl eqD) (eVar 0) (eVar 1)))
def fn_law_truth : Fn := fnD 2 dn_law_truth
def dn_law_told : En → M Fl := sRet (eAndD (eFn (fn_law_truth) (aCons (eFn (fn_is_name) (aCons (eVar 0) (aNil))) (aCons (eFn (fn_law_name) (aCons (eVar 0) (aNil))) (aNil)))) (eFn (fn_law_truth) (aCons (eFn (fn_is_word) (aCons (eVar 0) (aNil))) (aCons (eFn (fn_law_word) (aCons (eVar 0) (aNil))) (aNil)))))
def fn_law_told : Fn := fnD 1 dn_law_told
def dn_law : En → M Fl := sCons (sSet 1 (eFn (fn_law_text) (aCons (eVar 0) (aNil)))) (sRet (eAndD (eFn (fn_law_told) (aCons (eVar 1) (aNil))) (eAndD (eFn (fn_law_told) (aCons (eBin addD (eVar 1) (eC (.str "a"))) (aNil))) (eFn (fn_law_told) (aCons (eVar 1) (aNil))))))
def fn_law : Fn := fnD 2 dn_law
/-! ### what the top leaves -/
structure Tx (K : PySem.W.Frag) (mg : Str → Option Value) where
  f_is_letter : Addr
  d_is_letter : FuncData
  F_is_letter : Fun K "is_letter" "is_letter" st_is_letter f_is_letter d_is_letter
  m_is_letter : mg "is_letter" = some (.ref f_is_letter)
  b_is_letter : Binds K d_is_letter ["sign"] []
  f_is_figure : Addr
  d_is_figure : FuncData
  F_is_figure : Fun K "is_figure" "is_figure" st_is_figure f_is_figure d_is_figure
  m_is_figure : mg "is_figure" = some (.ref f_is_figure)
  b_is_figure : Binds K d_is_figure ["sign"] []
  f_is_name : Addr
  d_is_name : FuncData
  F_is_name : Fun K "is_name" "is_name" st_is_name f_is_name d_is_name
  m_is_name : mg "is_name" = some (.ref f_is_name)
  b_is_name : Binds K d_is_name ["text"] []
  f_is_word : Addr
  d_is_word : FuncData
  F_is_word : Fun K "is_word" "is_word" st_is_word f_is_word d_is_word
  m_is_word : mg "is_word" = some (.ref f_is_word)
  b_is_word : Binds K d_is_word ["text"] []
  f_law_cell_at : Addr
  d_law_cell_at : FuncData
  F_law_cell_at : Fun K "_law_cell_at" "_law_cell_at" st_law_cell_at f_law_cell_at d_law_cell_at
  m_law_cell_at : mg "_law_cell_at" = some (.ref f_law_cell_at)
  b_law_cell_at : Binds K d_law_cell_at ["script", "k"] []
  f_law_sign_by : Addr
  d_law_sign_by : FuncData
  F_law_sign_by : Fun K "_law_sign_by" "_law_sign_by" st_law_sign_by f_law_sign_by d_law_sign_by
  m_law_sign_by : mg "_law_sign_by" = some (.ref f_law_sign_by)
  b_law_sign_by : Binds K d_law_sign_by ["cell"] []
  f_law_text : Addr
  d_law_text : FuncData
  F_law_text : Fun K "_law_text" "_law_text" st_law_text f_law_text d_law_text
  m_law_text : mg "_law_text" = some (.ref f_law_text)
  b_law_text : Binds K d_law_text ["script"] []
  f_law_name : Addr
  d_law_name : FuncData
  F_law_name : Fun K "_law_name" "_law_name" st_law_name f_law_name d_law_name
  m_law_name : mg "_law_name" = some (.ref f_law_name)
  b_law_name : Binds K d_law_name ["text"] []
  f_law_word : Addr
  d_law_word : FuncData
  F_law_word : Fun K "_law_word" "_law_word" st_law_word f_law_word d_law_word
  m_law_word : mg "_law_word" = some (.ref f_law_word)
  b_law_word : Binds K d_law_word ["text"] []
  f_law_truth : Addr
  d_law_truth : FuncData
  F_law_truth : Fun K "_law_truth" "_law_truth" st_law_truth f_law_truth d_law_truth
  m_law_truth : mg "_law_truth" = some (.ref f_law_truth)
  b_law_truth : Binds K d_law_truth ["found", "due"] []
  f_law_told : Addr
  d_law_told : FuncData
  F_law_told : Fun K "_law_told" "_law_told" st_law_told f_law_told d_law_told
  m_law_told : mg "_law_told" = some (.ref f_law_told)
  b_law_told : Binds K d_law_told ["text"] []
  f_law : Addr
  d_law : FuncData
  F_law : Fun K "law" "law" st_law f_law d_law
  m_law : mg "law" = some (.ref f_law)
  b_law : Binds K d_law ["script"] []
  n_all : mg "all" = none
  n_bool : mg "bool" = none
  n_isinstance : mg "isinstance" = none
  n_len : mg "len" = none
  n_ord : mg "ord" = none
  n_range : mg "range" = none
  t_MOST_NAME : Tok
  c_MOST_NAME : mg "MOST_NAME" = some (.int 8 t_MOST_NAME)
  t_MOST_WORD : Tok
  c_MOST_WORD : mg "MOST_WORD" = some (.int 12 t_MOST_WORD)
section
variable {K : PySem.W.Frag} {mg : Str → Option Value}
def Tx.ca (T : Tx K mg) : Ct := ⟨fun _ => 0, K⟩
set_option maxRecDepth 100000 in
theorem Tx.G_is_letter (T : Tx K mg) (P : Program) (w : World) (base : Heap) : FnD P w K mg base 1 T.f_is_letter T.d_is_letter ["sign"] true T.ca fn_is_letter := by
  have sc := sc_is_letter
  refine fn_mkD T.F_is_letter sc (fun cdv A outer s H E hr tk hp => ?_)
  exact dss_one (ds_ret (de_and (de_le (DE.b (de_int)) (DE.b (de_ord (DE.b (de_var 0)) rfl rfl T.n_ord))) (de_one (de_le (DE.b (de_ord (DE.b (de_var 0)) rfl rfl T.n_ord)) (DE.b (de_int))))))
set_option maxRecDepth 100000 in
theorem Tx.G_is_figure (T : Tx K mg) (P : Program) (w : World) (base : Heap) : FnD P w K mg base 1 T.f_is_figure T.d_is_figure ["sign"] true T.ca fn_is_figure := by
  have sc := sc_is_figure
  refine fn_mkD T.F_is_figure sc (fun cdv A outer s H E hr tk hp => ?_)
  exact dss_one (ds_ret (de_and (de_le (DE.b (de_int)) (DE.b (de_ord (DE.b (de_var 0)) rfl rfl T.n_ord))) (de_one (de_le (DE.b (de_ord (DE.b (de_var 0)) rfl rfl T.n_ord)) (DE.b (de_int))))))
set_option maxRecDepth 100000 in
theorem Tx.G_is_name (T : Tx K mg) (P : Program) (w : World) (base : Heap) : FnD P w K mg base 2 T.f_is_name T.d_is_name ["text"] true T.ca fn_is_name := by
  have sc := sc_is_name
  refine fn_mkD T.F_is_name sc (fun cdv A outer s H E hr tk hp => ?_)
  exact dss_cons (ds_if (DW.t (dw_or (dt_eq hr (DE.b (de_var 0)) (DE.b (de_str))) (dw_or (dt_gt (DE.b (de_len (DE.b (de_var 0)) rfl rfl T.n_len)) (DE.b (de_glob rfl T.c_MOST_NAME))) (dw_or1 (dt_not (dt_val (DE.b (de_call (T.G_is_letter P w base) (fun z => z) rfl (hr.mono (by decide)) T.m_is_letter T.F_is_letter.kp T.b_is_letter tk (da_cons (de_ix (DE.b (de_var 0)) (DE.b (de_int))) (da_nil)) (aCons_len (aNil_len)))))))))) (dss_one (ds_ret (de_bl))) (dss_nil)) (dss_one (ds_ret (de_all rfl (DO.b (do_lc (own := [("sign", 1)]) rfl sc.nd (di_any (de_var 0)) (blkOk_by (N := N_is_name) (sc := defScope st_is_name) (by decide +kernel)) (fun _ _ _ _ _ => dg_name 1 sc.nd rfl (by first | exact Or.inl rfl | exact Or.inr rfl)) (fun _ _ _ _ _ => dts_nil) (fun _ _ _ _ _ => de_or (de_call (T.G_is_letter P w base) (fun z => z) rfl (hr.mono (by decide)) T.m_is_letter T.F_is_letter.kp T.b_is_letter takes0 (da_cons (de_var 1) (da_nil)) (aCons_len (aNil_len))) (de_one (de_call (T.G_is_figure P w base) (fun z => z) rfl (hr.mono (by decide)) T.m_is_figure T.F_is_figure.kp T.b_is_figure takes0 (da_cons (de_var 1) (da_nil)) (aCons_len (aNil_len))))))) rfl rfl T.n_all)))
set_option maxRecDepth 100000 in
theorem Tx.G_is_word (T : Tx K mg) (P : Program) (w : World) (base : Heap) : FnD P w K mg base 1 T.f_is_word T.d_is_word ["text"] true T.ca fn_is_word := by
  have sc := sc_is_word
  refine fn_mkD T.F_is_word sc (fun cdv A outer s H E hr tk hp => ?_)
  exact dss_cons (ds_if (DW.t (dw_or (dt_eq hr (DE.b (de_var 0)) (DE.b (de_str))) (dw_or1 (dt_gt (DE.b (de_len (DE.b (de_var 0)) rfl rfl T.n_len)) (DE.b (de_glob rfl T.c_MOST_WORD)))))) (dss_one (ds_ret (de_bl))) (dss_nil)) (dss_one (ds_ret (de_all rfl (DO.b (do_lc (own := [("sign", 1)]) rfl sc.nd (di_any (de_var 0)) (blkOk_by (N := N_is_word) (sc := defScope st_is_word) (by decide +kernel)) (fun _ _ _ _ _ => dg_name 1 sc.nd rfl (by first | exact Or.inl rfl | exact Or.inr rfl)) (fun _ _ _ _ _ => dts_nil) (fun _ _ _ _ _ => de_and (de_le (DE.b (de_int)) (DE.b (de_ord (DE.b (de_var 1)) rfl rfl T.n_ord))) (de_and (de_le (DE.b (de_ord (DE.b (de_var 1)) rfl rfl T.n_ord)) (DE.b (de_int))) (de_one (de_ne hr (DE.b (de_ord (DE.b (de_var 1)) rfl rfl T.n_ord)) (DE.b (de_int)))))))) rfl rfl T.n_all)))
set_option maxRecDepth 100000 in
theorem Tx.G_law_cell_at (T : Tx K mg) (P : Program) (w : World) (base : Heap) : FnD P w K mg base 1 T.f_law_cell_at T.d_law_cell_at ["script", "k"] true T.ca fn_law_cell_at := by
  have sc := sc_law_cell_at
  refine fn_mkD T.F_law_cell_at sc (fun cdv A outer s H E hr tk hp => ?_)
  exact dss_cons (ds_if (dt_lt (DE.b (de_var 1)) (DE.b (de_len (DE.b (de_var 0)) rfl rfl T.n_len))) (dss_one (ds_ret (de_ix (DE.b (de_var 0)) (DE.b (de_var 1))))) (dss_nil)) (dss_one (ds_ret (de_int)))
set_option maxRecDepth 100000 in
theorem Tx.G_law_sign_by (T : Tx K mg) (P : Program) (w : World) (base : Heap) : FnD P w K mg base 1 T.f_law_sign_by T.d_law_sign_by ["cell"] true T.ca fn_law_sign_by := by
  have sc := sc_law_sign_by
  refine fn_mkD T.F_law_sign_by sc (fun cdv A outer s H E hr tk hp => ?_)
  exact dss_cons (ds_set 1 sc.nd rfl (by first | exact Or.inl rfl | exact Or.inr rfl) (de_str)) (dss_cons (ds_set 1 sc.nd rfl (by first | exact Or.inl rfl | exact Or.inr rfl) (de_add (DE.b (de_var 1)) (DE.b (de_str)))) (dss_one (ds_ret (de_ix (DE.b (de_var 1)) (DE.b (de_mod (DE.b (de_var 0)) (DE.b (de_int))))))))
set_option maxRecDepth 100000 in
theorem Tx.G_law_text (T : Tx K mg) (P : Program) (w : World) (base : Heap) : FnD P w K mg base 2 T.f_law_text T.d_law_text ["script"] true T.ca fn_law_text := by
  have sc := sc_law_text
  refine fn_mkD T.F_law_text sc (fun cdv A outer s H E hr tk hp => ?_)
  exact dss_cons (ds_set 1 sc.nd rfl (by first | exact Or.inl rfl | exact Or.inr rfl) (de_mod (DE.b (de_call (T.G_law_cell_at P w base) (fun z => z) rfl (hr.mono (by decide)) T.m_law_cell_at T.F_law_cell_at.kp T.b_law_cell_at tk (da_cons (de_var 0) (da_cons (de_int) (da_nil))) (aCons_len (aCons_len (aNil_len))))) (DE.b (de_int)))) (dss_cons (ds_if (dt_eq hr (DE.b (de_mod (DE.b (de_call (T.G_law_cell_at P w base) (fun z => z) rfl (hr.mono (by decide)) T.m_law_cell_at T.F_law_cell_at.kp T.b_law_cell_at tk (da_cons (de_var 0) (da_cons (de_int) (da_nil))) (aCons_len (aCons_len (aNil_len))))) (DE.b (de_int)))) (DE.b (de_int))) (dss_one (ds_set 1 sc.nd rfl (by first | exact Or.inl rfl | exact Or.inr rfl) (de_mod (DE.b (de_call (T.G_law_cell_at P w base) (fun z => z) rfl (hr.mono (by decide)) T.m_law_cell_at T.F_law_cell_at.kp T.b_law_cell_at tk (da_cons (de_var 0) (da_cons (de_int) (da_nil))) (aCons_len (aCons_len (aNil_len))))) (DE.b (de_int))))) (dss_nil)) (dss_cons (ds_set 2 sc.nd rfl (by first | exact Or.inl rfl | exact Or.inr rfl) (de_str)) (dss_cons (ds_setLc (own := [("cell", 3)]) 4 rfl sc.nd rfl rfl (sw_true rfl rfl rfl (by decide +kernel)) (di_any (de_slA (DE.b (de_var 0)) (dp_some (de_int)) (dp_some (de_add (DE.b (de_int)) (DE.b (de_var 1)))))) (blkOk_by (N := N_law_text) (sc := defScope st_law_text) (by decide +kernel)) (fun _ _ _ _ _ => dg_name 3 sc.nd rfl (by first | exact Or.inl rfl | exact Or.inr rfl)) (fun _ _ _ _ _ => dts_nil) (fun _ _ _ _ _ => de_ix (DE.b (de_var 2)) (DE.b (de_mod (DE.b (de_var 3)) (DE.b (de_int)))))) (dss_cons (ds_setO 4 sc.nd rfl (by first | exact Or.inl rfl | exact Or.inr rfl) (do_cat (db_var 4) (DO.b (do_lc (own := [("k", 5)]) rfl sc.nd (di_range1 (de_sub (DE.b (de_var 1)) (DE.b (de_len (db_var 4) rfl rfl T.n_len))) rfl T.n_range) (blkOk_by (N := N_law_text) (sc := defScope st_law_text) (by decide +kernel)) (fun _ _ _ _ _ => dg_name 5 sc.nd rfl (by first | exact Or.inl rfl | exact Or.inr rfl)) (fun _ _ _ _ _ => dts_nil) (fun _ _ _ _ _ => de_str))))) (dss_cons (ds_if (DW.t (dw_and (dt_gt (DE.b (de_var 1)) (DE.b (de_int))) (dw_and1 (dt_eq hr (DE.b (de_mod (DE.b (de_div (DE.b (de_call (T.G_law_cell_at P w base) (fun z => z) rfl (hr.mono (by decide)) T.m_law_cell_at T.F_law_cell_at.kp T.b_law_cell_at tk (da_cons (de_var 0) (da_cons (de_int) (da_nil))) (aCons_len (aCons_len (aNil_len))))) (DE.b (de_int)))) (DE.b (de_int)))) (DE.b (de_int)))))) (dss_cons (ds_set 6 sc.nd rfl (by first | exact Or.inl rfl | exact Or.inr rfl) (de_call (T.G_law_sign_by P w base) (fun z => z) rfl (hr.mono (by decide)) T.m_law_sign_by T.F_law_sign_by.kp T.b_law_sign_by tk (da_cons (de_call (T.G_law_cell_at P w base) (fun z => z) rfl (hr.mono (by decide)) T.m_law_cell_at T.F_law_cell_at.kp T.b_law_cell_at tk (da_cons (de_var 0) (da_cons (de_int) (da_nil))) (aCons_len (aCons_len (aNil_len)))) (da_nil)) (aCons_len (aNil_len)))) (dss_cons (ds_if (dt_eq hr (DE.b (de_mod (DE.b (de_div (DE.b (de_call (T.G_law_cell_at P w base) (fun z => z) rfl (hr.mono (by decide)) T.m_law_cell_at T.F_law_cell_at.kp T.b_law_cell_at tk (da_cons (de_var 0) (da_cons (de_int) (da_nil))) (aCons_len (aCons_len (aNil_len))))) (DE.b (de_int)))) (DE.b (de_int)))) (DE.b (de_int))) (dss_one (ds_set 6 sc.nd rfl (by first | exact Or.inl rfl | exact Or.inr rfl) (de_ix (DE.b (de_str)) (DE.b (de_mod (DE.b (de_call (T.G_law_cell_at P w base) (fun z => z) rfl (hr.mono (by decide)) T.m_law_cell_at T.F_law_cell_at.kp T.b_law_cell_at tk (da_cons (de_var 0) (da_cons (de_int) (da_nil))) (aCons_len (aCons_len (aNil_len))))) (DE.b (de_int))))))) (dss_nil)) (dss_one (ds_setI 4 (de_mod (DE.b (de_call (T.G_law_cell_at P w base) (fun z => z) rfl (hr.mono (by decide)) T.m_law_cell_at T.F_law_cell_at.kp T.b_law_cell_at tk (da_cons (de_var 0) (da_cons (de_int) (da_nil))) (aCons_len (aCons_len (aNil_len))))) (DE.b (de_var 1))) (de_var 6))))) (dss_nil)) (dss_fz 4 (dss_one (ds_ret (de_join (DE.b (de_str)) (DE.b (de_var 4)))))))))))
set_option maxRecDepth 100000 in
theorem Tx.G_law_name (T : Tx K mg) (P : Program) (w : World) (base : Heap) : FnD P w K mg base 1 T.f_law_name T.d_law_name ["text"] true T.ca fn_law_name := by
  have sc := sc_law_name
  refine fn_mkD T.F_law_name sc (fun cdv A outer s H E hr tk hp => ?_)
  exact dss_cons (ds_set 1 sc.nd rfl (by first | exact Or.inl rfl | exact Or.inr rfl) (de_str)) (dss_cons (ds_for hp rfl (di_any (de_var 0)) (dg_name 2 sc.nd rfl (by first | exact Or.inl rfl | exact Or.inr rfl)) (dss_one (ds_if (DW.t (dw_and (dt_nin (DE.b (de_var 2)) (DE.b (de_var 1))) (dw_and1 (dt_nin (DE.b (de_var 2)) (DE.b (de_str)))))) (dss_one (ds_ret (de_bl))) (dss_nil)))) (dss_one (ds_ret (de_and (de_le (DE.b (de_int)) (DE.b (de_len (DE.b (de_var 0)) rfl rfl T.n_len))) (de_and (de_le (DE.b (de_len (DE.b (de_var 0)) rfl rfl T.n_len)) (DE.b (de_int))) (de_one (de_in (DE.b (de_ix (DE.b (de_var 0)) (DE.b (de_int)))) (DE.b (de_var 1)))))))))
set_option maxRecDepth 100000 in
theorem Tx.G_law_word (T : Tx K mg) (P : Program) (w : World) (base : Heap) : FnD P w K mg base 1 T.f_law_word T.d_law_word ["text"] true T.ca fn_law_word := by
  have sc := sc_law_word
  refine fn_mkD T.F_law_word sc (fun cdv A outer s H E hr tk hp => ?_)
  exact dss_cons (ds_for hp rfl (di_any (de_var 0)) (dg_name 1 sc.nd rfl (by first | exact Or.inl rfl | exact Or.inr rfl)) (dss_one (ds_if (dt_in (DE.b (de_var 1)) (DE.b (de_str))) (dss_one (ds_ret (de_bl))) (dss_nil)))) (dss_one (ds_ret (de_and (de_le (DE.b (de_int)) (DE.b (de_len (DE.b (de_var 0)) rfl rfl T.n_len))) (de_one (de_le (DE.b (de_len (DE.b (de_var 0)) rfl rfl T.n_len)) (DE.b (de_int)))))))
set_option maxRecDepth 100000 in
theorem Tx.G_law_truth (T : Tx K mg) (P : Program) (w : World) (base : Heap) : FnD P w K mg base 1 T.f_law_truth T.d_law_truth ["found", "due"] true T.ca fn_law_truth := by
  have sc := sc_law_truth
  refine fn_mkD T.F_law_truth sc (fun cdv A outer s H E hr tk hp => ?_)
  exact dss_one (ds_ret (de_and (de_isi "bool" (DE.b (de_var 0)) (by decide +kernel) rfl T.n_bool (by decide) (by decide) rfl T.n_isinstance) (de_one (de_eq hr (DE.b (de_var 0)) (DE.b (de_var 1))))))
set_option maxRecDepth 100000 in
theorem Tx.G_law_told (T : Tx K mg) (P : Program) (w : World) (base : Heap) : FnD P w K mg base 3 T.f_law_told T.d_law_told ["text"] true T.ca fn_law_told := by
  have sc := sc_law_told
  refine fn_mkD T.F_law_told sc (fun cdv A outer s H E hr tk hp => ?_)
  exact dss_one (ds_ret (de_and (de_call (T.G_law_truth P w base) (fun z => z) rfl (hr.mono (by decide)) T.m_law_truth T.F_law_truth.kp T.b_law_truth tk (da_cons (de_call (T.G_is_name P w base) (fun z => z) rfl (hr.mono (by decide)) T.m_is_name T.F_is_name.kp T.b_is_name tk (da_cons (de_var 0) (da_nil)) (aCons_len (aNil_len))) (da_cons (de_call (T.G_law_name P w base) (fun z => z) rfl (hr.mono (by decide)) T.m_law_name T.F_law_name.kp T.b_law_name tk (da_cons (de_var 0) (da_nil)) (aCons_len (aNil_len))) (da_nil))) (aCons_len (aCons_len (aNil_len)))) (de_one (de_call (T.G_law_truth P w base) (fun z => z) rfl (hr.mono (by decide)) T.m_law_truth T.F_law_truth.kp T.b_law_truth tk (da_cons (de_call (T.G_is_word P w base) (fun z => z) rfl (hr.mono (by decide)) T.m_is_word T.F_is_word.kp T.b_is_word tk (da_cons (de_var 0) (da_nil)) (aCons_len (aNil_len))) (da_cons (de_call (T.G_law_word P w base) (fun z => z) rfl (hr.mono (by decide)) T.m_law_word T.F_law_word.kp T.b_law_word tk (da_cons (de_var 0) (da_nil)) (aCons_len (aNil_len))) (da_nil))) (aCons_len (aCons_len (aNil_len)))))))
set_option maxRecDepth 100000 in
theorem Tx.G_law (T : Tx K mg) (P : Program) (w : World) (base : Heap) : FnD P w K mg base 4 T.f_law T.d_law ["script"] true T.ca fn_law := by
  have sc := sc_law
  refine fn_mkD T.F_law sc (fun cdv A outer s H E hr tk hp => ?_)
  exact dss_cons (ds_set 1 sc.nd rfl (by first | exact Or.inl rfl | exact Or.inr rfl) (de_call (T.G_law_text P w base) (fun z => z) rfl (hr.mono (by decide)) T.m_law_text T.F_law_text.kp T.b_law_text tk (da_cons (de_var 0) (da_nil)) (aCons_len (aNil_len)))) (dss_one (ds_ret (de_and (de_call (T.G_law_told P w base) (fun z => z) rfl (hr.mono (by decide)) T.m_law_told T.F_law_told.kp T.b_law_told tk (da_cons (de_var 1) (da_nil)) (aCons_len (aNil_len))) (de_and (de_call (T.G_law_told P w base) (fun z => z) rfl (hr.mono (by decide)) T.m_law_told T.F_law_told.kp T.b_law_told tk (da_cons (de_add (DE.b (de_var 1)) (DE.b (de_str))) (da_nil)) (aCons_len (aNil_len))) (de_one (de_call (T.G_law_told P w base) (fun z => z) rfl (hr.mono (by decide)) T.m_law_told T.F_law_told.kp T.b_law_told tk (da_cons (de_var 1) (da_nil)) (aCons_len (aNil_len))))))))
end
/-! ### the end -/
theorem all_mk {l : PySem.W.OpenLaw} {w : World} {K : PySem.W.Frag} {h : Heap} {mg : Str → Option Value} {fa : Addr} (X : K.In h) (G : h.Ns mainGlobals mg) (hfa : mg "law" = some (.ref fa))
    {f0 f1 f2 f3 f4 f5 f6 f7 f8 f9 f10 f11 : Addr}
    {od0 an0 od1 an1 od2 an2 od3 an3 od4 an4 od5 an5 od6 an6 od7 an7 od8 an8 od9 an9 od10 an10 od11 an11 : Option Addr} {sl0 sl1 sl2 sl3 sl4 sl5 sl6 sl7 sl8 sl9 sl10 sl11 : Array (Option Value)}
    {oc0 kV0 dc0 pm0 cd0 ct0 oc1 kV1 dc1 pm1 cd1 ct1 oc2 kV2 dc2 pm2 cd2 ct2 oc3 kV3 dc3 pm3 cd3 ct3 oc4 kV4 dc4 pm4 cd4 ct4 oc5 kV5 dc5 pm5 cd5 ct5 oc6 kV6 dc6 pm6 cd6 ct6 oc7 kV7 dc7 pm7 cd7 ct7 oc8 kV8 dc8 pm8 cd8 ct8 oc9 kV9 dc9 pm9 cd9 ct9 oc10 kV10 dc10 pm10 cd10 ct10 oc11 kV11 dc11 pm11 cd11 ct11 : Value}
    {t_MOST_NAME : Tok}
    {t_MOST_WORD : Tok}
    (a0 : PySem.W.nsIn K mainGlobals "is_letter" = some (some (.ref f0)))
    (l0 : K.lookup f0 = some ⟨oc0, od0, .func (PySem.W.fnOf "is_letter" "is_letter" (defArgs st_is_letter) (defBody st_is_letter) (defScope st_is_letter) .none kV0 dc0 pm0 an0 cd0 ct0), sl0⟩) (c0 : PySem.W.codeIn K cd0 "is_letter" = true) (k0 : PySem.W.keepIn K (.ref f0) = true)
    (a1 : PySem.W.nsIn K mainGlobals "is_figure" = some (some (.ref f1)))
    (l1 : K.lookup f1 = some ⟨oc1, od1, .func (PySem.W.fnOf "is_figure" "is_figure" (defArgs st_is_figure) (defBody st_is_figure) (defScope st_is_figure) .none kV1 dc1 pm1 an1 cd1 ct1), sl1⟩) (c1 : PySem.W.codeIn K cd1 "is_figure" = true) (k1 : PySem.W.keepIn K (.ref f1) = true)
    (a2 : PySem.W.nsIn K mainGlobals "is_name" = some (some (.ref f2)))
    (l2 : K.lookup f2 = some ⟨oc2, od2, .func (PySem.W.fnOf "is_name" "is_name" (defArgs st_is_name) (defBody st_is_name) (defScope st_is_name) .none kV2 dc2 pm2 an2 cd2 ct2), sl2⟩) (c2 : PySem.W.codeIn K cd2 "is_name" = true) (k2 : PySem.W.keepIn K (.ref f2) = true)
    (a3 : PySem.W.nsIn K mainGlobals "is_word" = some (some (.ref f3)))
    (l3 : K.lookup f3 = some ⟨oc3, od3, .func (PySem.W.fnOf "is_word" "is_word" (defArgs st_is_word) (defBody st_is_word) (defScope st_is_word) .none kV3 dc3 pm3 an3 cd3 ct3), sl3⟩) (c3 : PySem.W.codeIn K cd3 "is_word" = true) (k3 : PySem.W.keepIn K (.ref f3) = true)
    (a4 : PySem.W.nsIn K mainGlobals "_law_cell_at" = some (some (.ref f4)))
    (l4 : K.lookup f4 = some ⟨oc4, od4, .func (PySem.W.fnOf "_law_cell_at" "_law_cell_at" (defArgs st_law_cell_at) (defBody st_law_cell_at) (defScope st_law_cell_at) .none kV4 dc4 pm4 an4 cd4 ct4), sl4⟩) (c4 : PySem.W.codeIn K cd4 "_law_cell_at" = true) (k4 : PySem.W.keepIn K (.ref f4) = true)
    (a5 : PySem.W.nsIn K mainGlobals "_law_sign_by" = some (some (.ref f5)))
    (l5 : K.lookup f5 = some ⟨oc5, od5, .func (PySem.W.fnOf "_law_sign_by" "_law_sign_by" (defArgs st_law_sign_by) (defBody st_law_sign_by) (defScope st_law_sign_by) .none kV5 dc5 pm5 an5 cd5 ct5), sl5⟩) (c5 : PySem.W.codeIn K cd5 "_law_sign_by" = true) (k5 : PySem.W.keepIn K (.ref f5) = true)
    (a6 : PySem.W.nsIn K mainGlobals "_law_text" = some (some (.ref f6)))
    (l6 : K.lookup f6 = some ⟨oc6, od6, .func (PySem.W.fnOf "_law_text" "_law_text" (defArgs st_law_text) (defBody st_law_text) (defScope st_law_text) .none kV6 dc6 pm6 an6 cd6 ct6), sl6⟩) (c6 : PySem.W.codeIn K cd6 "_law_text" = true) (k6 : PySem.W.keepIn K (.ref f6) = true)
    (a7 : PySem.W.nsIn K mainGlobals "_law_name" = some (some (.ref f7)))
    (l7 : K.lookup f7 = some ⟨oc7, od7, .func (PySem.W.fnOf "_law_name" "_law_name" (defArgs st_law_name) (defBody st_law_name) (defScope st_law_name) .none kV7 dc7 pm7 an7 cd7 ct7), sl7⟩) (c7 : PySem.W.codeIn K cd7 "_law_name" = true) (k7 : PySem.W.keepIn K (.ref f7) = true)
    (a8 : PySem.W.nsIn K mainGlobals "_law_word" = some (some (.ref f8)))
    (l8 : K.lookup f8 = some ⟨oc8, od8, .func (PySem.W.fnOf "_law_word" "_law_word" (defArgs st_law_word) (defBody st_law_word) (defScope st_law_word) .none kV8 dc8 pm8 an8 cd8 ct8), sl8⟩) (c8 : PySem.W.codeIn K cd8 "_law_word" = true) (k8 : PySem.W.keepIn K (.ref f8) = true)
    (a9 : PySem.W.nsIn K mainGlobals "_law_truth" = some (some (.ref f9)))
    (l9 : K.lookup f9 = some ⟨oc9, od9, .func (PySem.W.fnOf "_law_truth" "_law_truth" (defArgs st_law_truth) (defBody st_law_truth) (defScope st_law_truth) .none kV9 dc9 pm9 an9 cd9 ct9), sl9⟩) (c9 : PySem.W.codeIn K cd9 "_law_truth" = true) (k9 : PySem.W.keepIn K (.ref f9) = true)
    (a10 : PySem.W.nsIn K mainGlobals "_law_told" = some (some (.ref f10)))
    (l10 : K.lookup f10 = some ⟨oc10, od10, .func (PySem.W.fnOf "_law_told" "_law_told" (defArgs st_law_told) (defBody st_law_told) (defScope st_law_told) .none kV10 dc10 pm10 an10 cd10 ct10), sl10⟩) (c10 : PySem.W.codeIn K cd10 "_law_told" = true) (k10 : PySem.W.keepIn K (.ref f10) = true)
    (a11 : PySem.W.nsIn K mainGlobals "law" = some (some (.ref f11)))
    (l11 : K.lookup f11 = some ⟨oc11, od11, .func (PySem.W.fnOf "law" "law" (defArgs st_law) (defBody st_law) (defScope st_law) .none kV11 dc11 pm11 an11 cd11 ct11), sl11⟩) (c11 : PySem.W.codeIn K cd11 "law" = true) (k11 : PySem.W.keepIn K (.ref f11) = true)
    (z_all : PySem.W.nsIn K mainGlobals "all" = some none)
    (z_bool : PySem.W.nsIn K mainGlobals "bool" = some none)
    (z_isinstance : PySem.W.nsIn K mainGlobals "isinstance" = some none)
    (z_len : PySem.W.nsIn K mainGlobals "len" = some none)
    (z_ord : PySem.W.nsIn K mainGlobals "ord" = some none)
    (z_range : PySem.W.nsIn K mainGlobals "range" = some none)
    (g_MOST_NAME : PySem.W.nsIn K mainGlobals "MOST_NAME" = some (some (.int 8 t_MOST_NAME)))
    (g_MOST_WORD : PySem.W.nsIn K mainGlobals "MOST_WORD" = some (some (.int 12 t_MOST_WORD)))
    : ∃ fd : FuncData, (∀ (s : Shared) (v : Value), BindsTo s fd ⟨[v], []⟩ [("script", v)]) ∧ ∀ base : Heap, K.In base → base.Ns mainGlobals mg → FnOk l.prog w K mg base (L2.CX l.prog w) 4 fa fd ["script"] (spOf true ⟨fun _ => 0, K⟩ 1 fn_law) := by
  have e := hfa.symm.trans (PySem.W.mg_of X G a11)
  cases e
  have F0 := fun_mk (st := st_is_letter) l0 c0 k0
  have b0 := F0.binds (ps := ["sign"]) fun _ _ _ _ _ _ us hl => match us, hl with | [_], _ => rfl
  have F1 := fun_mk (st := st_is_figure) l1 c1 k1
  have b1 := F1.binds (ps := ["sign"]) fun _ _ _ _ _ _ us hl => match us, hl with | [_], _ => rfl
  have F2 := fun_mk (st := st_is_name) l2 c2 k2
  have b2 := F2.binds (ps := ["text"]) fun _ _ _ _ _ _ us hl => match us, hl with | [_], _ => rfl
  have F3 := fun_mk (st := st_is_word) l3 c3 k3
  have b3 := F3.binds (ps := ["text"]) fun _ _ _ _ _ _ us hl => match us, hl with | [_], _ => rfl
  have F4 := fun_mk (st := st_law_cell_at) l4 c4 k4
  have b4 := F4.binds (ps := ["script", "k"]) fun _ _ _ _ _ _ us hl => match us, hl with | [_, _], _ => rfl
  have F5 := fun_mk (st := st_law_sign_by) l5 c5 k5
  have b5 := F5.binds (ps := ["cell"]) fun _ _ _ _ _ _ us hl => match us, hl with | [_], _ => rfl
  have F6 := fun_mk (st := st_law_text) l6 c6 k6
  have b6 := F6.binds (ps := ["script"]) fun _ _ _ _ _ _ us hl => match us, hl with | [_], _ => rfl
  have F7 := fun_mk (st := st_law_name) l7 c7 k7
  have b7 := F7.binds (ps := ["text"]) fun _ _ _ _ _ _ us hl => match us, hl with | [_], _ => rfl
  have F8 := fun_mk (st := st_law_word) l8 c8 k8
  have b8 := F8.binds (ps := ["text"]) fun _ _ _ _ _ _ us hl => match us, hl with | [_], _ => rfl
  have F9 := fun_mk (st := st_law_truth) l9 c9 k9
  have b9 := F9.binds (ps := ["found", "due"]) fun _ _ _ _ _ _ us hl => match us, hl with | [_, _], _ => rfl
  have F10 := fun_mk (st := st_law_told) l10 c10 k10
  have b10 := F10.binds (ps := ["text"]) fun _ _ _ _ _ _ us hl => match us, hl with | [_], _ => rfl
  have F11 := fun_mk (st := st_law) l11 c11 k11
  have b11 := F11.binds (ps := ["script"]) fun _ _ _ _ _ _ us hl => match us, hl with | [_], _ => rfl
  have T : { T : Tx K mg // T.f_law = fa ∧ T.d_law = PySem.W.fnOf "law" "law" (defArgs st_law) (defBody st_law) (defScope st_law) .none kV11 dc11 pm11 an11 cd11 ct11 } := ⟨⟨f0, _, F0, PySem.W.mg_of X G a0, b0, f1, _, F1, PySem.W.mg_of X G a1, b1, f2, _, F2, PySem.W.mg_of X G a2, b2, f3, _, F3, PySem.W.mg_of X G a3, b3, f4, _, F4, PySem.W.mg_of X G a4, b4, f5, _, F5, PySem.W.mg_of X G a5, b5, f6, _, F6, PySem.W.mg_of X G a6, b6, f7, _, F7, PySem.W.mg_of X G a7, b7, f8, _, F8, PySem.W.mg_of X G a8, b8, f9, _, F9, PySem.W.mg_of X G a9, b9, f10, _, F10, PySem.W.mg_of X G a10, b10, fa, _, F11, PySem.W.mg_of X G a11, b11, PySem.W.mg_none_of X G z_all, PySem.W.mg_none_of X G z_bool, PySem.W.mg_none_of X G z_isinstance, PySem.W.mg_none_of X G z_len, PySem.W.mg_none_of X G z_ord, PySem.W.mg_none_of X G z_range, t_MOST_NAME, PySem.W.mg_of X G g_MOST_NAME, t_MOST_WORD, PySem.W.mg_of X G g_MOST_WORD⟩, rfl, rfl⟩
  obtain ⟨T, e1, e2⟩ := T
  exact ⟨PySem.W.fnOf "law" "law" (defArgs st_law) (defBody st_law) (defScope st_law) .none kV11 dc11 pm11 an11 cd11 ct11, fun s v => .of_eq rfl, fun base _ _ => by rw [← e1, ← e2]; exact T.G_law l.prog w base⟩
theorem only_sp {K : PySem.W.Frag} {a : Addr} {ns : List Int} {H : Hp} {f : Fn} {ca : Ct} (hK : ca.K = K) (hO : Only H) (hS : SqL K H a (ns.map V.int)) (S' : Store) (hl : f [.scr ns] [] = .ok (.f (.bl true)) S') : spOf true ca 1 f [.ref a] H (fun v _ => v = .bl true) fun _ _ _ => False := by
  refine ⟨rfl, ⟨fun _ => none, H, ⟨fun _ => none, fun b ms => b = a ∧ ms = ns⟩⟩, [], [.scr ns], rfl, ⟨fun _ _ h => (nomatch h), fun _ _ _ h => (nomatch h), fun _ _ _ => rfl, fun _ _ h => (nomatch h), fun n ob h => ?_, ?_, fun _ _ h => (nomatch h), fun _ _ _ h => (nomatch h)⟩, .cons (.scr ⟨rfl, rfl⟩) .nil, ?_⟩
  · simp at h
  · rintro b ms ⟨rfl, rfl⟩
    rcases hS with (h | ⟨o, h⟩) | h
    · rcases hO b with z | ⟨o, xs, z⟩
      · rw [h] at z; cases z
      · rw [h] at z; cases z
    · exact .inl ⟨o, h⟩
    · exact .inr fun H' => by rw [hK]; exact .inr h
  · rw [hl]
    intro g' v _ _ r
    cases r
    rfl
theorem walk {l : PySem.W.OpenLaw} {q : Program} {loose : List Str} {XP : (Str → Option Value) → Heap → Prop} {YP : World → Heap → Prop} {d : DefRec} {K : Params → PySem.W.Frag} (hn : l.most = some 63) (hdf : d.params.defaults = [])
    (hlaw : ∀ ns : List Int, ns.length ≤ 63 → ∃ S', fn_law [.scr ns] [] = .ok (.f (.bl true)) S')
    (hY : ∀ (w : World) (h : Heap), YP w h → (K w.params).In h)
    (F : ∀ (w : World) (mg : Str → Option Value) (fa : Addr) (h : Heap), (K w.params).In h → h.Ns mainGlobals mg → mg d.name = some (.ref fa) →
      ∃ fd : FuncData, (∀ (s : Shared) (u : Value), BindsTo s fd ⟨[u], []⟩ [("script", u)]) ∧ ∀ base : Heap, (K w.params).In base → base.Ns mainGlobals mg → FnOk l.prog w (K w.params) mg base (L2.CX l.prog w) 4 fa fd ["script"] (spOf true ⟨fun _ => 0, K w.params⟩ 1 fn_law)) :
    PySem.W.WalkO q loose XP YP l.row.toRowW d [] (fun f vs => PySem.call f vs) :=
  L2.walk_of (n := 63) (k := 4) (x := "script") (CX := fun w => L2.CX l.prog w) (sp := fun w => spOf true ⟨fun _ => 0, K w.params⟩ 1 fn_law) hn (by decide) hdf ⟨rfl, by decide, by decide⟩ hY F
    (fun _ _ a ns hl hO hS => by obtain ⟨S', h⟩ := hlaw ns hl; exact only_sp rfl hO hS S' h) fun _ _ _ _ _ ⟨_, _, _, _, _, _, _, _, _, _, _, _, z⟩ => z

local macro_rules | `(tactic| walk_at "ev") => `(tactic| simp only [bind_S, liftS_S, bindR_ok, bindR_exc, bindR_bad, liftR_ok, liftR_exc, liftR_bad, ret_S, bad_S, raise_S, lift_some_S, lift_none_S, quiet_S, quietR_ok, quietR_exc, quietR_bad, ite_S, fnD_S, initE, evs_nil, evs_cons, eO_S, eVar_S, eC_S, eVarB_S, aNil_S, aCons_S, eTup_S, eLst_S, eBin_S, tBin_S, oCat_S, tAndD_S, tOrD_S, tNotD_S, eAndD_S, eOrD_S, eNotD_S, eNegD_S, tValD_S, eIfD_S, oPart_S, oSl_S, eSl_S, eCall_S, isiO_S, sNil_S, sCons_S, sExpr_S, sRet_S, sRetO_S, sRetV_S, sRetN_S, sIf_S, sBrk_S, sCnt_S, sSet_S, sSetO_S, sFz_S, iL_S, iT_S, iS_S, iR1_S, iR2_S, iR3_S, sFor_S, oLc_S, tYesD_S, onO_S, sApp_S, sExt_S, sSetI_S, eFn_S, oFn_S, eM1_S, oSplit_S, eSlA_S, oListF_S, eTupF_S, eIndex_S, iA_S, sThenFz_S, sUnp_S, bName, bTup, bNil, bCons, wipeE, obl, truD, Res.d, fzE, addD, subD, mulD, divD, modD, ltD, leD, gtD, geD, isN, isD, isnD, tyN, eqD_str, eqD_int, eqD_bl, neD_str, neD_int, neD_bl, ordO_one, tx_eq_nil, inD_sign, ninD_sign, intO, maxO, minO, List.length_cons, List.length_nil, List.length_map, List.replicate, List.cons_append, List.nil_append, List.append_nil, List.getElem?_cons_zero, List.getElem?_cons_succ, List.set_cons_zero, List.set_cons_succ, Option.map_some, Option.map_none, Option.bind_some, Option.bind_none, if_true, if_false, ite_true, ite_false, Nat.sub_self, Nat.zero_add, Nat.reduceAdd, Nat.reduceSub, Nat.reduceLeDiff, Int.reduceLT, Int.reduceLE, Int.reduceMod, Int.reduceDiv, Int.reduceMul, Int.reduceAdd, Int.reduceSub, Int.reduceNeg, Nat.reduceLT, reduceIte, Bool.not_true, Bool.not_false, reduceCtorEq, decide_eq_true_eq, decide_eq_false_iff_not, Bool.not_eq_true', Bool.false_eq_true, Bool.true_eq_false, decide_true, decide_false, Bool.and_true, Bool.true_and, Bool.and_false, Bool.false_and, Bool.or_false, Bool.or_true, Bool.true_or, Bool.false_or, true_and, and_true, true_or, or_true, false_or, or_false, false_and, and_false, not_true_eq_false, not_false_eq_true, ne_eq])
local macro_rules | `(tactic| walk_at "ev*") => `(tactic| simp only [bind_S, liftS_S, bindR_ok, bindR_exc, bindR_bad, liftR_ok, liftR_exc, liftR_bad, ret_S, bad_S, raise_S, lift_some_S, lift_none_S, quiet_S, quietR_ok, quietR_exc, quietR_bad, ite_S, fnD_S, initE, evs_nil, evs_cons, eO_S, eVar_S, eC_S, eVarB_S, aNil_S, aCons_S, eTup_S, eLst_S, eBin_S, tBin_S, oCat_S, tAndD_S, tOrD_S, tNotD_S, eAndD_S, eOrD_S, eNotD_S, eNegD_S, tValD_S, eIfD_S, oPart_S, oSl_S, eSl_S, eCall_S, isiO_S, sNil_S, sCons_S, sExpr_S, sRet_S, sRetO_S, sRetV_S, sRetN_S, sIf_S, sBrk_S, sCnt_S, sSet_S, sSetO_S, sFz_S, iL_S, iT_S, iS_S, iR1_S, iR2_S, iR3_S, sFor_S, oLc_S, tYesD_S, onO_S, sApp_S, sExt_S, sSetI_S, eFn_S, oFn_S, eM1_S, oSplit_S, eSlA_S, oListF_S, eTupF_S, eIndex_S, iA_S, sThenFz_S, sUnp_S, bName, bTup, bNil, bCons, wipeE, obl, truD, Res.d, fzE, addD, subD, mulD, divD, modD, ltD, leD, gtD, geD, isN, isD, isnD, tyN, eqD_str, eqD_int, eqD_bl, neD_str, neD_int, neD_bl, ordO_one, tx_eq_nil, inD_sign, ninD_sign, intO, maxO, minO, List.length_cons, List.length_nil, List.length_map, List.replicate, List.cons_append, List.nil_append, List.append_nil, List.getElem?_cons_zero, List.getElem?_cons_succ, List.set_cons_zero, List.set_cons_succ, Option.map_some, Option.map_none, Option.bind_some, Option.bind_none, if_true, if_false, ite_true, ite_false, Nat.sub_self, Nat.zero_add, Nat.reduceAdd, Nat.reduceSub, Nat.reduceLeDiff, Int.reduceLT, Int.reduceLE, Int.reduceMod, Int.reduceDiv, Int.reduceMul, Int.reduceAdd, Int.reduceSub, Int.reduceNeg, Nat.reduceLT, reduceIte, Bool.not_true, Bool.not_false, reduceCtorEq, decide_eq_true_eq, decide_eq_false_iff_not, Bool.not_eq_true', Bool.false_eq_true, Bool.true_eq_false, decide_true, decide_false, Bool.and_true, Bool.true_and, Bool.and_false, Bool.false_and, Bool.or_false, Bool.or_true, Bool.true_or, Bool.false_or, true_and, and_true, true_or, or_true, false_or, or_false, false_and, and_false, not_true_eq_false, not_false_eq_true, ne_eq, *])
/-! ### names and words (own proofs over the printed denotations) -/
def letB (c : Nat) : Bool := decide (97 ≤ (c : Int)) && decide ((c : Int) ≤ 122)
def figB (c : Nat) : Bool := decide (48 ≤ (c : Int)) && decide ((c : Int) ≤ 57)
theorem is_letter_ok (c : Nat) (S : Store) : fn_is_letter [.str ⟨#[c]⟩] S = .ok (.f (.bl (letB c))) S := by
  unfold fn_is_letter dn_is_letter letB
  walk_at "ev"
  by_cases h : (97 : Int) ≤ c <;> walk_at "ev*"
theorem is_figure_ok (c : Nat) (S : Store) : fn_is_figure [.str ⟨#[c]⟩] S = .ok (.f (.bl (figB c))) S := by
  unfold fn_is_figure dn_is_figure figB
  walk_at "ev"
  by_cases h : (48 : Int) ≤ c <;> walk_at "ev*"
def nameB (l : List Nat) : Bool := match l with
  | [] => false
  | c :: _ => decide (l.length ≤ 8) && letB c && l.all fun c => letB c || figB c
def wdB (c : Nat) : Bool := decide (33 ≤ (c : Int)) && (decide ((c : Int) ≤ 126) && !decide ((c : Int) = 37))
def wordB (l : List Nat) : Bool := decide (1 ≤ l.length) && decide (l.length ≤ 12) && l.all wdB
theorem is_name_ok (l : List Nat) (hl : l.length ≤ lim) (S : Store) : fn_is_name [.str (tx l)] S = .ok (.f (.bl (nameB l))) S := by
  unfold fn_is_name dn_is_name
  walk_at "ev"
  cases l with
  | nil => rfl
  | cons c r =>
    have e1 := lenO_tx _ hl
    have e2 : ixD (.str (tx (c :: r))) (.int 0) = some (.str ⟨#[c]⟩) := ix_sign (l := c :: r) (i := 0) rfl hl
    have e3 := is_letter_ok c
    have hlen : (c :: r).length = r.length + 1 := rfl
    walk_at "ev*"
    by_cases h8 : (8 : Int) < ((r.length + 1 : Nat) : Int)
    · have e : nameB (c :: r) = false := by
        unfold nameB
        rw [decide_eq_false (by omega)]
        rfl
      walk_at "ev*"
    · cases hc : letB c with
      | false =>
        have e : nameB (c :: r) = false := by
          show (decide ((c :: r).length ≤ 8) && letB c && _) = false
          rw [hc]
          simp
        walk_at "ev*"
      | true =>
        have e : nameB (c :: r) = (c :: r).all fun c => letB c || figB c := by
          show (decide ((c :: r).length ≤ 8) && letB c && _) = _
          rw [hc, decide_eq_true (by omega)]
          simp
        walk_at "ev*"
        rw [show signsD (tx (c :: r)) = (c :: r).map sgn from rfl, lcD_all (c :: r) sgn (fun c => D.bl (letB c || figB c)) hl (fun x _ => ⟨_, rfl, by
          have e4 := is_letter_ok x
          have e5 := is_figure_ok x
          simp only [sgn]
          walk_at "ev*"
          cases letB x <;> walk_at "ev*"⟩)]
        walk_at "ev"
        rw [allO_map]
        walk_at "ev"
theorem is_word_ok (l : List Nat) (hl : l.length ≤ lim) (S : Store) : fn_is_word [.str (tx l)] S = .ok (.f (.bl (wordB l))) S := by
  unfold fn_is_word dn_is_word
  walk_at "ev"
  cases l with
  | nil => rfl
  | cons c r =>
    have e1 := lenO_tx _ hl
    have hlen : (c :: r).length = r.length + 1 := rfl
    walk_at "ev*"
    by_cases h8 : (12 : Int) < ((r.length + 1 : Nat) : Int)
    · have e : wordB (c :: r) = false := by
        unfold wordB
        rw [decide_eq_false (show ¬ (c :: r).length ≤ 12 by omega)]
        simp
      walk_at "ev*"
    · have e : wordB (c :: r) = (c :: r).all wdB := by
        unfold wordB
        rw [decide_eq_true (show 1 ≤ (c :: r).length by omega), decide_eq_true (show (c :: r).length ≤ 12 by omega)]
        rfl
      walk_at "ev*"
      rw [show signsD (tx (c :: r)) = (c :: r).map sgn from rfl, lcD_all (c :: r) sgn (fun c => D.bl (wdB c)) hl (fun x _ => ⟨_, rfl, by
          simp only [sgn]
          walk_at "ev"
          unfold wdB
          by_cases h1 : (33 : Int) ≤ x <;> by_cases h2 : (x : Int) ≤ 126 <;> walk_at "ev*"⟩)]
      walk_at "ev"
      rw [allO_map]
      walk_at "ev"

def cellAt (ns : List Int) (k : Nat) : Int := ns.getD k 0
theorem cell_ok (ns : List Int) (k : Nat) (hl : ns.length ≤ 63) (S : Store) : fn_law_cell_at [.scr ns, .int k] S = .ok (.f (.int (cellAt ns k))) S := by
  unfold fn_law_cell_at dn_law_cell_at
  have e1 : lenO [.scr ns] = some (.int ns.length) := rfl
  walk_at "ev*"
  unfold cellAt
  by_cases h : (k : Int) < ns.length
  · have e2 : ixD (.scr ns) (.int (k : Int)) = some (.int ns[k]) := by
      show (atI ns (k : Int)).map D.int = _
      rw [atI_nat (List.getElem?_eq_getElem (by omega))]
      rfl
    rw [List.getD_eq_getElem?_getD, List.getElem?_eq_getElem (by omega)]
    walk_at "ev*"
    rfl
  · rw [List.getD_eq_getElem?_getD, List.getElem?_eq_none (by omega)]
    walk_at "ev*"
    rfl
def goodB (c : Nat) : Bool := decide (c = 9) || decide (c = 10) || decide (c = 32) || wdB c
theorem sign_by_ok (i : Int) (S : Store) : ∃ c, fn_law_sign_by [.int i] S = .ok (.f (.str ⟨#[c]⟩)) S ∧ goodB c = true := by
  obtain ⟨c, h1, h2, -⟩ := lit_at (s := (" !\"#$&'()*+,-./0123456789:;<=>?@ABCDEFGHIJKLMNOPQRSTUVWXYZ[\\]^_`" : Str) ++ ("abcdefghijklmnopqrstuvwxyz{|}~\n\t" : Str)) _ rfl goodB (by decide) (by decide) (i := i % 96) (by omega) (by show i % 96 < 96; omega)
  refine ⟨c, ?_, h2⟩
  have e3 : ((" !\"#$&'()*+,-./0123456789:;<=>?@ABCDEFGHIJKLMNOPQRSTUVWXYZ[\\]^_`" : Str).length + ("abcdefghijklmnopqrstuvwxyz{|}~\n\t" : Str).length ≤ lim) = True := by decide
  unfold fn_law_sign_by dn_law_sign_by
  walk_at "ev*"
theorem text_ok (ns : List Int) (hl : ns.length ≤ 63) (S : Store) : ∃ l, fn_law_text [.scr ns] S = .ok (.f (.str (tx l))) S ∧ l.length ≤ 14 ∧ l.all goodB = true := by
  have c0 := cell_ok ns 0 hl
  have c1 := cell_ok ns 1 hl
  have c2 := cell_ok ns 2 hl
  have c3 := cell_ok ns 3 hl
  simp only [Int.ofNat_zero, Int.ofNat_one, Int.cast_ofNat_Int] at c0 c1 c2 c3
  unfold fn_law_text dn_law_text
  walk_at "ev*"
  have hE : ∃ size : Nat, size ≤ 14 ∧ (if cellAt ns 1 % 2 = 1 then R.ok (Fl.nx [EV.f (D.scr ns), EV.f (D.int (cellAt ns 0 % 15)), EV.u, EV.u, EV.u, EV.u, EV.u]) S else R.ok (Fl.nx [EV.f (D.scr ns), EV.f (D.int (cellAt ns 0 % 11)), EV.u, EV.u, EV.u, EV.u, EV.u]) S) = R.ok (Fl.nx [EV.f (D.scr ns), EV.f (D.int (size : Nat)), EV.u, EV.u, EV.u, EV.u, EV.u]) S := by
    by_cases h : cellAt ns 1 % 2 = 1
    · refine ⟨(cellAt ns 0 % 15).toNat, by omega, ?_⟩
      rw [if_pos h, Int.toNat_of_nonneg (by omega)]
    · refine ⟨(cellAt ns 0 % 11).toNat, by omega, ?_⟩
      rw [if_neg h, Int.toNat_of_nonneg (by omega)]
  obtain ⟨size, hs, hE⟩ := hE
  rw [hE]
  walk_at "ev"
  have hc := cutI_len ns 4 (4 + (size : Int)) (by omega) (by omega)
  generalize cutI ns (some 4) (some (4 + (size : Int))) = cells at hc ⊢
  obtain ⟨lt, hlt⟩ : ∃ lt : Int → Nat, ∀ i, ixD (.str ("abcdefghijklmnopqrstuvwxyz0123456789" : Str)) (.int (i % 36)) = some (sgn (lt i)) ∧ goodB (lt i) = true := by
    have H : ∀ i : Int, ∃ c, ixD (.str ("abcdefghijklmnopqrstuvwxyz0123456789" : Str)) (.int (i % 36)) = some (sgn c) ∧ goodB c = true := fun i => by
      obtain ⟨c, h1, h2, -⟩ := lit_at (s := ("abcdefghijklmnopqrstuvwxyz0123456789" : Str)) _ rfl goodB (by decide) (by decide) (i := i % 36) (by omega) (by show i % 36 < 36; omega)
      exact ⟨c, h1, h2⟩
    exact ⟨fun i => (H i).choose, fun i => (H i).choose_spec⟩
  rw [lcD_all cells D.int (fun i => sgn (lt i)) (Nat.le_trans hc (by unfold lim; omega)) (fun x _ => ⟨_, rfl, by
    have h := (hlt x).1
    walk_at "ev*"⟩)]
  walk_at "ev"
  rw [show lenO [.lst (cells.map fun i => sgn (lt i))] = some (.int cells.length) from by simp [lenO]]
  walk_at "ev"
  rw [if_pos (by omega)]
  walk_at "ev"
  rw [show rng 0 ((size : Int) - cells.length).toNat = (List.range ((size : Int) - cells.length).toNat).map (fun i : Nat => D.int (0 + (i : Nat))) from rfl, lcD_all (List.range ((size : Int) - cells.length).toNat) _ (fun _ => sgn 113) (by simp [lim]; omega) (fun x _ => ⟨_, rfl, by walk_at "ev"; rfl⟩)]
  walk_at "ev"
  rw [if_pos (by simp [lim]; omega)]
  walk_at "ev"
  obtain ⟨l, hl1, hl2, hl3⟩ : ∃ l : List Nat, (cells.map fun i => sgn (lt i)) ++ ((List.range ((size : Int) - cells.length).toNat).map fun _ => sgn 113) = l.map sgn ∧ l.length = size ∧ l.all goodB = true := by
    refine ⟨cells.map lt ++ List.replicate ((size : Int) - cells.length).toNat 113, ?_, ?_, ?_⟩
    · simp [Function.comp_def]
      rw [List.map_const', List.length_range]
    · simp; omega
    · simp
      exact ⟨fun x _ => (hlt x).2, Or.inr (by decide)⟩
  rw [hl1]
  have hfin : ∀ (l : List Nat), l.length ≤ 14 → l.all goodB = true → ∀ e0 e1 e2 e3 e5 e6, ∃ l_1, bindR (quietR (sFz 4 (sRet (eM1 joinO (eC (D.str (Str.ofString ""))) (eVar 4))) [e0, e1, e2, e3, EV.o (l.map sgn), e5, e6] S)) (fun fl => match fl with
      | Fl.nx env => M.ret (Res.f D.non)
      | Fl.rt d => M.ret (Res.f d)
      | Fl.rtO xs => M.ret (Res.o xs)
      | Fl.ex c env => M.raise c
      | x => M.bad) = R.ok (Res.f (D.str (tx l_1))) S ∧ l_1.length ≤ 14 ∧ l_1.all goodB = true := fun l h1 h2 e0 e1 e2 e3 e5 e6 => by
    refine ⟨l, ?_, h1, h2⟩
    have j := join_sgn (s := "") rfl l (Nat.le_trans h1 (by decide))
    walk_at "ev*"
  by_cases h0 : (0 : Int) < (size : Int)
  · by_cases h1 : cellAt ns 1 / 2 % 2 = 1
    · obtain ⟨c3, k3, g3⟩ := sign_by_ok (cellAt ns 3) S
      obtain ⟨c4, k4, g4, -⟩ := lit_at (s := ("`{/:@\x5b!~ \n\t" : Str)) _ rfl goodB (by decide) (by decide) (i := cellAt ns 3 % 11) (by omega) (by show cellAt ns 3 % 11 < 11; omega)
      have k5 : ixN size (cellAt ns 2 % size) = some (cellAt ns 2 % size).toNat := ixN_nn _ _ (Int.emod_nonneg _ (by omega)) (Int.emod_lt_of_pos _ (by omega))
      by_cases h2 : cellAt ns 1 / 4 % 2 = 1
      · walk_at "ev*"
        rw [show (D.str ⟨#[c4]⟩) = sgn c4 from rfl, setD_map]
        exact hfin _ (by simp; omega) (all_set _ hl3 g4) _ _ _ _ _ _
      · walk_at "ev*"
        rw [show (D.str ⟨#[c3]⟩) = sgn c3 from rfl, setD_map]
        exact hfin _ (by simp; omega) (all_set _ hl3 g3) _ _ _ _ _ _
    · walk_at "ev*"
      exact hfin _ (by omega) hl3 _ _ _ _ _ _
  · walk_at "ev*"
    exact hfin _ (by omega) hl3 _ _ _ _ _ _

theorem in_let (c : Nat) : inD (.str ⟨#[c]⟩) (.str ("abcdefghijklmnopqrstuvwxyz" : Str)) = some (letB c) := by
  rw [show ("abcdefghijklmnopqrstuvwxyz" : Str) = tx ((List.range 26).map (97 + ·)) from rfl, inD_sign]
  congr 1
  unfold letB
  rw [Bool.eq_iff_iff]
  simp only [decide_eq_true_eq, Bool.and_eq_true, List.mem_map, List.mem_range]
  constructor
  · rintro ⟨k, h, rfl⟩; omega
  · intro h; exact ⟨c - 97, by omega, by omega⟩
theorem in_fig (c : Nat) : inD (.str ⟨#[c]⟩) (.str ("0123456789" : Str)) = some (figB c) := by
  rw [show ("0123456789" : Str) = tx ((List.range 10).map (48 + ·)) from rfl, inD_sign]
  congr 1
  unfold figB
  rw [Bool.eq_iff_iff]
  simp only [decide_eq_true_eq, Bool.and_eq_true, List.mem_map, List.mem_range]
  constructor
  · rintro ⟨k, h, rfl⟩; omega
  · intro h; exact ⟨c - 48, by omega, by omega⟩
theorem law_name_ok (l : List Nat) (hl : l.length ≤ lim) (S : Store) : fn_law_name [.str (tx l)] S = .ok (.f (.bl (nameB l))) S := by
  unfold fn_law_name dn_law_name
  walk_at "ev"
  have key := forD_seek (body := sIf (tAndD (tBin ninD (eVar 2) (eVar 1)) (tBin ninD (eVar 2) (eC (.str "0123456789")))) (sRet (eC (.bl false))) (sNil)) (b := bName 2) (S := S) sgn (fun c => if letB c || figB c then none else some (.bl false))
    (fun env => ∃ e, env = [EV.f (.str (tx l)), EV.f (.str "abcdefghijklmnopqrstuvwxyz"), e]) l [EV.f (.str (tx l)), EV.f (.str "abcdefghijklmnopqrstuvwxyz"), EV.u] ⟨_, rfl⟩ (by
      rintro _ ⟨e, rfl⟩ x -
      refine ⟨_, rfl, ?_⟩
      have h1 := in_let x
      have h2 := in_fig x
      simp only [sgn]
      cases k1 : letB x with
      | true =>
        refine ⟨_, Or.inl ?_, ⟨EV.f (.str ⟨#[x]⟩), rfl⟩⟩
        unfold ninD
        walk_at "ev*"
      | false =>
        cases k2 : figB x with
        | true =>
          refine ⟨_, Or.inl ?_, ⟨EV.f (.str ⟨#[x]⟩), rfl⟩⟩
          unfold ninD
          walk_at "ev*"
        | false =>
          show _ = _
          unfold ninD
          walk_at "ev*")
  rw [signs_sgn]
  cases hf : l.findSome? (fun c => if letB c || figB c then none else some (D.bl false)) with
  | some d =>
    rw [hf] at key
    obtain ⟨x, hx, hx2⟩ := List.exists_of_findSome?_eq_some hf
    have e : nameB l = false := by
      cases l with
      | nil => rfl
      | cons c r =>
        show (_ && _ && (c :: r).all _) = false
        rw [show ((c :: r).all fun c => letB c || figB c) = false from by
          rw [List.all_eq_false]
          refine ⟨x, hx, ?_⟩
          split at hx2
          · cases hx2
          · assumption]
        simp
    have ed : d = .bl false := by
      split at hx2
      · cases hx2
      · cases hx2; rfl
    subst ed
    walk_at "ev*"
  | none =>
    rw [hf] at key
    obtain ⟨env', ⟨e0, rfl⟩, key⟩ := key
    have hall : (l.all fun c => letB c || figB c) = true := by
      rw [List.all_eq_true]
      intro x hx
      have := List.findSome?_eq_none_iff.mp hf x hx
      split at this
      · assumption
      · cases this
    have e1 := lenO_tx l hl
    cases l with
    | nil => walk_at "ev*"; rfl
    | cons c r =>
      have e2 : ixD (.str (tx (c :: r))) (.int 0) = some (.str ⟨#[c]⟩) := ix_sign (l := c :: r) (i := 0) rfl hl
      have e3 := in_let c
      have hlen : (c :: r).length = r.length + 1 := rfl
      have e : nameB (c :: r) = (decide ((c :: r).length ≤ 8) && letB c) := by
        show (_ && _ && (c :: r).all _) = _
        rw [hall, Bool.and_true]
      rw [e]
      have h1 : (1 : Int) ≤ ((r.length + 1 : Nat) : Int) := by omega
      by_cases h8 : ((r.length + 1 : Nat) : Int) ≤ 8
      · rw [decide_eq_true (show (c :: r).length ≤ 8 by omega)]
        walk_at "ev*"
      · rw [decide_eq_false (show ¬ (c :: r).length ≤ 8 by omega)]
        walk_at "ev*"
theorem law_word_ok (l : List Nat) (hl : l.length ≤ lim) (hg : l.all goodB = true) (S : Store) : fn_law_word [.str (tx l)] S = .ok (.f (.bl (wordB l))) S := by
  unfold fn_law_word dn_law_word
  walk_at "ev"
  have hw : ∀ c ∈ l, inD (.str ⟨#[c]⟩) (.str (" \n\t" : Str)) = some (!wdB c) := by
    intro c hc
    rw [show (" \n\t" : Str) = tx [32, 10, 9] from rfl, inD_sign]
    congr 1
    have g := List.all_eq_true.mp hg c hc
    unfold goodB at g
    cases w : wdB c with
    | true =>
      unfold wdB at w
      simp at w
      simp
      omega
    | false =>
      rw [w] at g
      simp at g
      simp
      omega
  have key := forD_seek (body := sIf (tBin inD (eVar 1) (eC (.str " \n\t"))) (sRet (eC (.bl false))) (sNil)) (b := bName 1) (S := S) sgn (fun c => if wdB c then none else some (.bl false))
    (fun env => ∃ e, env = [EV.f (.str (tx l)), e]) l [EV.f (.str (tx l)), EV.u] ⟨_, rfl⟩ (by
      rintro _ ⟨e, rfl⟩ x hx
      refine ⟨_, rfl, ?_⟩
      have h1 := hw x hx
      simp only [sgn]
      cases k1 : wdB x with
      | true =>
        refine ⟨_, Or.inl ?_, ⟨EV.f (.str ⟨#[x]⟩), rfl⟩⟩
        rw [k1] at h1
        walk_at "ev*"
      | false =>
        show _ = _
        rw [k1] at h1
        walk_at "ev*")
  rw [signs_sgn]
  cases hf : l.findSome? (fun c => if wdB c then none else some (D.bl false)) with
  | some d =>
    rw [hf] at key
    obtain ⟨x, hx, hx2⟩ := List.exists_of_findSome?_eq_some hf
    have e : wordB l = false := by
      unfold wordB
      rw [show l.all wdB = false from by
          rw [List.all_eq_false]
          refine ⟨x, hx, ?_⟩
          split at hx2
          · cases hx2
          · assumption]
      simp
    have ed : d = .bl false := by
      split at hx2
      · cases hx2
      · cases hx2; rfl
    subst ed
    walk_at "ev*"
  | none =>
    rw [hf] at key
    obtain ⟨env', ⟨e0, rfl⟩, key⟩ := key
    have hall : (l.all wdB) = true := by
      rw [List.all_eq_true]
      intro x hx
      have := List.findSome?_eq_none_iff.mp hf x hx
      split at this
      · assumption
      · cases this
    have e1 := lenO_tx l hl
    unfold wordB
    rw [hall]
    by_cases h1 : (1 : Int) ≤ (l.length : Int)
    · rw [decide_eq_true (show 1 ≤ l.length by omega)]
      by_cases h12 : (l.length : Int) ≤ 12
      · rw [decide_eq_true (show l.length ≤ 12 by omega)]
        walk_at "ev*"
      · rw [decide_eq_false (show ¬ l.length ≤ 12 by omega)]
        walk_at "ev*"
    · rw [decide_eq_false (show ¬ 1 ≤ l.length by omega)]
      walk_at "ev*"
theorem truth_ok (a b : Bool) (S : Store) : fn_law_truth [.bl a, .bl b] S = .ok (.f (.bl (decide (a = b)))) S := by
  unfold fn_law_truth dn_law_truth
  have e : kitB "bool" "bool" = some true := by decide
  walk_at "ev*"
theorem told_ok (l : List Nat) (hl : l.length ≤ lim) (hg : l.all goodB = true) (S : Store) : fn_law_told [.str (tx l)] S = .ok (.f (.bl true)) S := by
  unfold fn_law_told dn_law_told
  have e1 := is_name_ok l hl
  have e2 := is_word_ok l hl
  have e3 := law_name_ok l hl
  have e4 := law_word_ok l hl hg
  have e5 := fun a => truth_ok a a
  walk_at "ev*"
theorem law_true : ∀ ns : List Int, ns.length ≤ 63 → ∃ S', fn_law [.scr ns] [] = .ok (.f (.bl true)) S' := by
  intro ns hl
  obtain ⟨l, e1, h1, h2⟩ := text_ok ns hl []
  have e2 := told_ok l (Nat.le_trans h1 (by decide)) h2
  have e3 := told_ok (l ++ [97]) (by simp [lim]; omega) (by rw [List.all_append, h2]; decide)
  have e4 : (tx l ++ ("a" : Str)) = tx (l ++ [97]) := tx_app l [97]
  have e5 : ((tx l).length + ("a" : Str).length ≤ lim) = True := by
    rw [tx_len]
    exact eq_true (Nat.le_trans (Nat.add_le_add_right h1 _) (by decide))
  refine ⟨[], ?_⟩
  unfold fn_law dn_law
  walk_at "ev*"

end Law
open PySem PySem.W PyProof.Rows in
set_option maxRecDepth 100000 in
set_option maxHeartbeats 0 in
theorem PySem.Challenge.cw_taskheart_k01_names_and_words_holds : PySem.Challenge.rw_taskheart_k01_names_and_words.Holds := by
  w_on; o_law; k_head; (case hw => w_witness2)
  k_fill
  refine Law.walk (l := PySem.Challenge.rw_taskheart_k01_names_and_words) rfl rfl Law.law_true (fun w h Y => PySem.W.kIn_of Y) ?F
  case F =>
    intro w mg fa h KX G hmg
    refine' Law.all_mk KX G hmg ?a0 ?l0 ?c0 ?k0 ?a1 ?l1 ?c1 ?k1 ?a2 ?l2 ?c2 ?k2 ?a3 ?l3 ?c3 ?k3 ?a4 ?l4 ?c4 ?k4 ?a5 ?l5 ?c5 ?k5 ?a6 ?l6 ?c6 ?k6 ?a7 ?l7 ?c7 ?k7 ?a8 ?l8 ?c8 ?k8 ?a9 ?l9 ?c9 ?k9 ?a10 ?l10 ?c10 ?k10 ?a11 ?l11 ?c11 ?k11 ?z_all ?z_bool ?z_isinstance ?z_len ?z_ord ?z_range ?g_MOST_NAME ?g_MOST_WORD
    (case a0 => k_is)
    (case l0 => k_is)
    (case c0 => k_is)
    (case k0 => k_is)
    (case a1 => k_is)
    (case l1 => k_is)
    (case c1 => k_is)
    (case k1 => k_is)
    (case a2 => k_is)
    (case l2 => k_is)
    (case c2 => k_is)
    (case k2 => k_is)
    (case a3 => k_is)
    (case l3 => k_is)
    (case c3 => k_is)
    (case k3 => k_is)
    (case a4 => k_is)
    (case l4 => k_is)
    (case c4 => k_is)
    (case k4 => k_is)
    (case a5 => k_is)
    (case l5 => k_is)
    (case c5 => k_is)
    (case k5 => k_is)
    (case a6 => k_is)
    (case l6 => k_is)
    (case c6 => k_is)
    (case k6 => k_is)
    (case a7 => k_is)
    (case l7 => k_is)
    (case c7 => k_is)
    (case k7 => k_is)
    (case a8 => k_is)
    (case l8 => k_is)
    (case c8 => k_is)
    (case k8 => k_is)
    (case a9 => k_is)
    (case l9 => k_is)
    (case c9 => k_is)
    (case k9 => k_is)
    (case a10 => k_is)
    (case l10 => k_is)
    (case c10 => k_is)
    (case k10 => k_is)
    (case a11 => k_is)
    (case l11 => k_is)
    (case c11 => k_is)
    (case k11 => k_is)
    (case z_all => k_is)
    (case z_bool => k_is)
    (case z_isinstance => k_is)
    (case z_len => k_is)
    (case z_ord => k_is)
    (case z_range => k_is)
    (case g_MOST_NAME => k_is)
    (case g_MOST_WORD => k_is)
