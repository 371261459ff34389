import PyProof.Rows.All
import Wide.All
import OpenK.AllK
import Wide.FinOn
import HandS.ForMost
import HandS.ForExc
import HandS.IsInst
import HandS.TupLe
import HandS.Deep
import HandS.NoneIn
import HandS.Small
import HandS.Style
import HandS.EndBits
import HandS.DictComp
import HandS.WideBits
import HandS.ExcCtx
import HandS.HotCalls
import HandS.TryOnly
import KE.KxIndex
import HandS.SetFor
import HandS.SortRule
import KE.DataFind
import HandS.SortKw
import KE.DataMinMax
import HandS.ExcIs
import PySem.Challenge.RW_taskheart_k17_heirs
set_option Elab.async false
set_option linter.all false
set_option maxRecDepth 100000
set_option maxHeartbeats 8000000
/-! Dn: a denotation for the part of Python that stands here. D: data; Store: objects by number; M: what a piece of code gives. -/
namespace Dn
open PySem L2

inductive D where
  | non | bl (b : Bool) | int (i : Int) | str (s : Str)
  | lst (xs : List D) | tup (xs : List D)
  | dct (kvs : List (Key × D))
  | scr (ns : List Int)
  | obj (n : Nat)
  deriving Inhabited

/-- a field's value: data, a list of the field's own, a dict of the field's own -/
inductive FV where
  | f (d : D) | o (xs : List D) | k (kvs : List (Key × D))
  deriving Inhabited
structure Ob where
  cls : Str
  fs : List (Str × FV)
abbrev Store := List Ob

inductive R (α : Type) where
  | ok (a : α) (S : Store) | exc (c : Str) (S : Store) | bad
abbrev M (α : Type) := Store → R α
def R.sat {α : Type} (r : R α) (P : α → Store → Prop) (E : Str → Store → Prop) : Prop := match r with
  | .ok a S => P a S
  | .exc c S => E c S
  | .bad => False
def M.ret {α : Type} (a : α) : M α := fun S => .ok a S
def M.bad {α : Type} : M α := fun _ => .bad
def M.raise {α : Type} (c : Str) : M α := fun S => .exc c S
def M.bind {α β : Type} (m : M α) (k : α → M β) : M β := fun S => match m S with
  | .ok a S' => k a S'
  | .exc c S' => .exc c S'
  | .bad => .bad
theorem sat_bind {α β : Type} {m : M α} {k : α → M β} {S : Store} {P : β → Store → Prop} {E : Str → Store → Prop} (h : (M.bind m k S).sat P E) : (m S).sat (fun a S' => (k a S').sat P E) E := by
  unfold M.bind at h
  cases e : m S with
  | ok a S' => rw [e] at h; exact h
  | exc c S' => rw [e] at h; exact h
  | bad => rw [e] at h; exact h
theorem sat_mono {α : Type} {r : R α} {P P' : α → Store → Prop} {E E' : Str → Store → Prop} (h : r.sat P E) (hp : ∀ a S, P a S → P' a S) (he : ∀ c S, E c S → E' c S) : r.sat P' E' := by
  cases r with
  | ok a S => exact hp a S h
  | exc c S => exact he c S h
  | bad => exact h

/-! ### the ghost state -/
inductive Loc where
  | ob (n : Nat) | fl (n : Nat) (f : Str)
/-- where the objects, and their fields' own lists, stand; sc: the script -/
structure Pi where
  at_ : Loc → Option Addr
  sc : Addr → List Int → Prop
instance : CoeFun Pi (fun _ => Loc → Option Addr) := ⟨Pi.at_⟩
def PiLe (p p' : Pi) : Prop := (∀ n a, p (.ob n) = some a → p' (.ob n) = some a) ∧ ∀ a ns, p.sc a ns → p'.sc a ns
theorem PiLe.refl (p : Pi) : PiLe p p := ⟨fun _ _ h => h, fun _ _ h => h⟩
theorem PiLe.trans {p q r : Pi} (a : PiLe p q) (b : PiLe q r) : PiLe p r := ⟨fun n x h => b.1 n x (a.1 n x h), fun n x h => b.2 n x (a.2 n x h)⟩
/-- the classes' addresses, the written part -/
structure Ct where
  cls : Str → Addr
  K : PySem.W.Frag
instance : CoeFun Ct (fun _ => Str → Addr) := ⟨Ct.cls⟩
structure G where
  F : Hp
  H : Hp
  p : Pi

mutual
inductive Rp (F : Hp) (p : Pi) : V → D → Prop where
  | non : Rp F p .non .non
  | bl (b : Bool) : Rp F p (.bl b) (.bl b)
  | int (i : Int) : Rp F p (.int i) (.int i)
  | str (x : Str) : Rp F p (.str x) (.str x)
  | lst {a : Addr} {vs : List V} {ds : List D} : F a = some (.lst vs) → RpA F p vs ds → Rp F p (.ref a) (.lst ds)
  | tup {a : Addr} {vs : List V} {ds : List D} : F a = some (.tup vs) → RpA F p vs ds → Rp F p (.ref a) (.tup ds)
  | dct {a : Addr} {vs : List (Key × V)} {ds : List (Key × D)} : F a = some (.dK vs) → RpK F p vs ds → Rp F p (.ref a) (.dct ds)
  | scr {a : Addr} {ns : List Int} : p.sc a ns → Rp F p (.ref a) (.scr ns)
  | obj {a : Addr} {n : Nat} : p (.ob n) = some a → Rp F p (.ref a) (.obj n)
inductive RpA (F : Hp) (p : Pi) : List V → List D → Prop where
  | nil : RpA F p [] []
  | cons {v : V} {d : D} {vs : List V} {ds : List D} : Rp F p v d → RpA F p vs ds → RpA F p (v :: vs) (d :: ds)
inductive RpK (F : Hp) (p : Pi) : List (Key × V) → List (Key × D) → Prop where
  | nil : RpK F p [] []
  | cons {k : Key} {v : V} {d : D} {vs : List (Key × V)} {ds : List (Key × D)} : Rp F p v d → RpK F p vs ds → RpK F p ((k, v) :: vs) ((k, d) :: ds)
end

section mono
variable {F F' : Hp} {p p' : Pi} (e : Same F F') (q : PiLe p p')
include e q
mutual
theorem Rp.mono : ∀ {v : V} {d : D}, Rp F p v d → Rp F' p' v d
  | _, _, .non => .non
  | _, _, .bl b => .bl b
  | _, _, .int i => .int i
  | _, _, .str x => .str x
  | _, _, .lst h t => .lst (e _ _ h) (RpA.mono t)
  | _, _, .tup h t => .tup (e _ _ h) (RpA.mono t)
  | _, _, .dct h t => .dct (e _ _ h) (RpK.mono t)
  | _, _, .scr h => .scr (q.2 _ _ h)
  | _, _, .obj h => .obj (q.1 _ _ h)
theorem RpA.mono : ∀ {vs : List V} {ds : List D}, RpA F p vs ds → RpA F' p' vs ds
  | _, _, .nil => .nil
  | _, _, .cons h t => .cons (Rp.mono h) (RpA.mono t)
theorem RpK.mono : ∀ {vs : List (Key × V)} {ds : List (Key × D)}, RpK F p vs ds → RpK F' p' vs ds
  | _, _, .nil => .nil
  | _, _, .cons h t => .cons (Rp.mono h) (RpK.mono t)
end
end mono

section lists
variable {F : Hp} {p : Pi}
theorem RpA.length : ∀ {vs : List V} {ds : List D}, RpA F p vs ds → vs.length = ds.length
  | _, _, .nil => rfl
  | _, _, .cons _ t => by simp [RpA.length t]
theorem RpA.append : ∀ {vs ws : List V} {ds es : List D}, RpA F p vs ds → RpA F p ws es → RpA F p (vs ++ ws) (ds ++ es)
  | _, _, _, _, .nil, s => s
  | _, _, _, _, .cons h t, s => .cons h (RpA.append t s)
theorem RpA.one {v : V} {d : D} (h : Rp F p v d) : RpA F p [v] [d] := .cons h .nil
theorem RpA.take : ∀ (n : Nat) {vs : List V} {ds : List D}, RpA F p vs ds → RpA F p (vs.take n) (ds.take n)
  | 0, _, _, _ => .nil
  | _ + 1, _, _, .nil => .nil
  | n + 1, _, _, .cons h t => .cons h (RpA.take n t)
theorem RpA.drop : ∀ (n : Nat) {vs : List V} {ds : List D}, RpA F p vs ds → RpA F p (vs.drop n) (ds.drop n)
  | 0, _, _, h => h
  | _ + 1, _, _, .nil => .nil
  | n + 1, _, _, .cons _ t => RpA.drop n t
theorem RpA.set : ∀ (n : Nat) {v : V} {d : D} {vs : List V} {ds : List D}, Rp F p v d → RpA F p vs ds → RpA F p (vs.set n v) (ds.set n d)
  | _, _, _, _, _, _, .nil => .nil
  | 0, _, _, _, _, h, .cons _ t => .cons h t
  | n + 1, _, _, _, _, h, .cons g t => .cons g (RpA.set n h t)
theorem RpA.eraseIdx : ∀ (n : Nat) {vs : List V} {ds : List D}, RpA F p vs ds → RpA F p (vs.eraseIdx n) (ds.eraseIdx n)
  | _, _, _, .nil => .nil
  | 0, _, _, .cons _ t => t
  | n + 1, _, _, .cons g t => .cons g (RpA.eraseIdx n t)
theorem RpA.get : ∀ (n : Nat) {vs : List V} {ds : List D} {d : D}, RpA F p vs ds → ds[n]? = some d → ∃ v, vs[n]? = some v ∧ Rp F p v d
  | _, _, _, _, .nil, e => by simp at e
  | 0, _, _, _, .cons h _, e => by simp at e; subst e; exact ⟨_, rfl, h⟩
  | n + 1, _, _, _, .cons _ t, e => by
    obtain ⟨v, h1, h2⟩ := RpA.get n t (by simpa using e)
    exact ⟨v, by simpa using h1, h2⟩
theorem RpA.getV : ∀ (n : Nat) {vs : List V} {ds : List D} {v : V}, RpA F p vs ds → vs[n]? = some v → ∃ d, ds[n]? = some d ∧ Rp F p v d
  | _, _, _, _, .nil, e => by simp at e
  | 0, _, _, _, .cons h _, e => by simp at e; subst e; exact ⟨_, rfl, h⟩
  | n + 1, _, _, _, .cons _ t, e => by
    obtain ⟨v, h1, h2⟩ := RpA.getV n t (by simpa using e)
    exact ⟨v, by simpa using h1, h2⟩
theorem RpA.ints : ∀ (ns : List Int), RpA F p (ns.map V.int) (ns.map D.int)
  | [] => .nil
  | n :: ns => .cons (.int n) (RpA.ints ns)
end lists

/-- what a piece of code leaves as it was; m: nothing of the store is written -/
structure Ext (m : Bool) (g g' : G) : Prop where
  same : Same g.F g'.F
  stay : ∀ b o, g.H b = some o → g.F b = none → (∀ l, g.p l ≠ some b) → g'.H b = some o ∧ g'.F b = none ∧ ∀ l, g'.p l ≠ some b
  obs : PiLe g.p g'.p
  dom : ∀ b, g'.H b = none → g.H b = none
  pure : m = true → g'.p = g.p ∧ ∀ l a o, g.p l = some a → g.H a = some o → g'.H a = some o
  frz : ∀ b o u, g.H b = some (.frz o u) → g'.H b = some (.frz o u)
theorem Ext.refl {m : Bool} (g : G) : Ext m g g := ⟨Same.refl _, fun _ _ h f q => ⟨h, f, q⟩, PiLe.refl _, fun _ h => h, fun _ => ⟨rfl, fun _ _ _ _ h => h⟩, fun _ _ _ h => h⟩
theorem Ext.down {m : Bool} {g g' : G} (e : Ext true g g') : Ext m g g' := ⟨e.same, e.stay, e.obs, e.dom, fun _ => e.pure rfl, e.frz⟩
theorem Ext.f {m : Bool} {g g' : G} (e : Ext m g g') : Ext false g g' := ⟨e.same, e.stay, e.obs, e.dom, (fun h => nomatch h), e.frz⟩
theorem Ext.trans {m : Bool} {g g1 g2 : G} (a : Ext m g g1) (b : Ext m g1 g2) : Ext m g g2 :=
  ⟨a.same.trans b.same, fun c o h f q => let ⟨h1, f1, q1⟩ := a.stay c o h f q; b.stay c o h1 f1 q1, a.obs.trans b.obs, fun c h => a.dom c (b.dom c h), fun h => by
    obtain ⟨p1, k1⟩ := a.pure h
    obtain ⟨p2, k2⟩ := b.pure h
    exact ⟨p2.trans p1, fun l c o x y => k2 l c o (by rw [p1]; exact x) (k1 l c o x y)⟩, fun c o u h => b.frz c o u (a.frz c o u h)⟩
theorem Ext.rp {m : Bool} {g g' : G} (e : Ext m g g') {v : V} {d : D} (h : Rp g.F g.p v d) : Rp g'.F g'.p v d := Rp.mono e.same e.obs h
theorem Ext.rpA {m : Bool} {g g' : G} (e : Ext m g g') {v : List V} {d : List D} (h : RpA g.F g.p v d) : RpA g'.F g'.p v d := RpA.mono e.same e.obs h
theorem Ext.rpK {m : Bool} {g g' : G} (e : Ext m g g') {v : List (Key × V)} {d : List (Key × D)} (h : RpK g.F g.p v d) : RpK g'.F g'.p v d := RpK.mono e.same e.obs h

/-- the script's list: known to the object, or of the written part -/
def Ks (K : PySem.W.Frag) (H : Hp) (a : Addr) (ns : List Int) : Prop := (∃ o, H a = some (.frz o (.lst (ns.map V.int)))) ∨ ∀ H', SqL K H' a (ns.map V.int)
theorem Ks.sq {K : PySem.W.Frag} {H : Hp} {a : Addr} {ns : List Int} (h : Ks K H a ns) : SqL K H a (ns.map V.int) := by
  rcases h with ⟨o, h⟩ | h
  · exact .inl (.inr ⟨o, h⟩)
  · exact h H
theorem Ks.keep {K : PySem.W.Frag} {H H' : Hp} {a : Addr} {ns : List Int} (h : Ks K H a ns) (k : ∀ a o u, H a = some (.frz o u) → H' a = some (.frz o u)) : Ks K H' a ns := by
  rcases h with ⟨o, h⟩ | h
  · exact .inl ⟨o, k _ _ _ h⟩
  · exact .inr h
/-- a field's value as it stands -/
def FvOk (g : G) (n : Nat) (f : Str) (v : V) : FV → Prop
  | .f d => Rp g.F g.p v d
  | .o xs => ∃ l vs, v = .ref l ∧ g.p (.fl n f) = some l ∧ g.H l = some (.lst vs) ∧ RpA g.F g.p vs xs
  | .k kvs => ∃ l vs, v = .ref l ∧ g.p (.fl n f) = some l ∧ g.H l = some (.dK vs) ∧ RpK g.F g.p vs kvs
inductive FsOk (g : G) (n : Nat) : List (Str × V) → List (Str × FV) → Prop where
  | nil : FsOk g n [] []
  | cons {f : Str} {v : V} {w : FV} {vs : List (Str × V)} {ws : List (Str × FV)} : FvOk g n f v w → FsOk g n vs ws → ws.lookup f = none → FsOk g n ((f, v) :: vs) ((f, w) :: ws)
/-- the class name of a list, a dict that more than one name may mean -/
abbrev rawC : Str := ""
def rawF (w : FV) : List (Str × FV) := [("", w)]
def RawAt (g : G) (a : Addr) (fs : List (Str × FV)) : Prop := (∃ vs xs, fs = rawF (.o xs) ∧ g.H a = some (.lst vs) ∧ RpA g.F g.p vs xs) ∨ (∃ vs xs, fs = rawF (.k xs) ∧ g.H a = some (.dK vs) ∧ RpK g.F g.p vs xs) ∨ ∃ vs xs o, fs = rawF (.f (.dct xs)) ∧ g.H a = some (.frz o (.dK vs)) ∧ RpK g.F g.p vs xs
theorem RawAt.mv {g g' : G} {a : Addr} {fs : List (Str × FV)} (e : Same g.F g'.F) (q : PiLe g.p g'.p) (hH : ∀ o, g.H a = some o → g'.H a = some o) (h : RawAt g a fs) : RawAt g' a fs := by
  rcases h with ⟨vs, xs, h1, h2, h3⟩ | ⟨vs, xs, h1, h2, h3⟩ | ⟨vs, xs, o, h1, h2, h3⟩
  · exact .inl ⟨vs, xs, h1, hH _ h2, RpA.mono e q h3⟩
  · exact .inr (.inl ⟨vs, xs, h1, hH _ h2, RpK.mono e q h3⟩)
  · exact .inr (.inr ⟨vs, xs, o, h1, hH _ h2, RpK.mono e q h3⟩)
structure SOk (ca : Ct) (g : G) (S : Store) : Prop where
  same : Same g.F g.H
  inj : ∀ l l' a, g.p l = some a → g.p l' = some a → l = l'
  out : ∀ l a, g.p l = some a → g.F a = none
  live : ∀ l a, g.p l = some a → ∃ o, g.H a = some o
  obs : ∀ n ob, S[n]? = some ob → ob.cls ≠ rawC → ∃ a dx fs, g.p (.ob n) = some a ∧ g.H a = some (.ins (ca ob.cls) dx fs) ∧ FsOk g n fs ob.fs
  sc : ∀ a ns, g.p.sc a ns → Ks ca.K g.H a ns
  lt : ∀ n a, g.p (.ob n) = some a → n < S.length
  lf : ∀ n f a, g.p (.fl n f) = some a → n < S.length
  raw : ∀ n ob, S[n]? = some ob → ob.cls = rawC → ∃ a, g.p (.ob n) = some a ∧ RawAt g a ob.fs

/-! ### the local names -/
inductive EV where
  | u | f (d : D) | o (xs : List D) | k (kvs : List (Key × D)) | x (a : Addr)
  deriving Inhabited
abbrev En := List EV
def EV.own : EV → Bool
  | .o _ => true
  | .k _ => true
  | _ => false
/-- an address of the frame's own -/
structure OwnAt (H0 : Hp) (g : G) (q : Addr) : Prop where
  out : g.F q = none
  nop : ∀ l, g.p l ≠ some q
  new : H0 q = none
def EvOk (H0 : Hp) (g : G) (v : Option V) : EV → Prop
  | .u => True
  | .f d => ∃ w, v = some w ∧ Rp g.F g.p w d
  | .o xs => ∃ q vs, v = some (.ref q) ∧ g.H q = some (.lst vs) ∧ RpA g.F g.p vs xs ∧ OwnAt H0 g q
  | .k xs => ∃ q vs, v = some (.ref q) ∧ g.H q = some (.dK vs) ∧ RpK g.F g.p vs xs ∧ OwnAt H0 g q
  | .x a => v = some (.ref a)
structure EnvOk (H0 : Hp) (g : G) (σ : L2.St) (env : En) : Prop where
  len : σ.length = env.length
  at_ : ∀ (i : Nat) v w, σ[i]? = some v → env[i]? = some w → EvOk H0 g v w
  apart : ∀ (i j : Nat) v w w', i ≠ j → σ[i]? = some (some v) → σ[j]? = some (some v) → env[i]? = some w → env[j]? = some w' → w.own = true → w'.own = true → False
theorem OwnAt.ext {m : Bool} {H0 : Hp} {g g' : G} {q : Addr} {o : HO} (h : OwnAt H0 g q) (hq : g.H q = some o) (e : Ext m g g') : OwnAt H0 g' q ∧ g'.H q = some o :=
  let ⟨a, b, c⟩ := e.stay q o hq h.out h.nop
  ⟨⟨b, c, h.new⟩, a⟩
theorem EvOk.ext {m : Bool} {H0 : Hp} {g g' : G} {v : Option V} (e : Ext m g g') : ∀ {w : EV}, EvOk H0 g v w → EvOk H0 g' v w
  | .u, _ => trivial
  | .f d, ⟨w, h1, h2⟩ => ⟨w, h1, e.rp h2⟩
  | .o xs, ⟨q, vs, h1, h2, h3, h4⟩ => let ⟨a, b⟩ := h4.ext h2 e; ⟨q, vs, h1, b, e.rpA h3, a⟩
  | .k xs, ⟨q, vs, h1, h2, h3, h4⟩ => let ⟨a, b⟩ := h4.ext h2 e; ⟨q, vs, h1, b, e.rpK h3, a⟩
  | .x a, h => h
theorem EnvOk.ext {m : Bool} {H0 : Hp} {g g' : G} {σ : L2.St} {env : En} (h : EnvOk H0 g σ env) (e : Ext m g g') : EnvOk H0 g' σ env :=
  ⟨h.len, fun i v w a b => (h.at_ i v w a b).ext e, h.apart⟩
theorem EnvOk.get {H0 : Hp} {g : G} {σ : L2.St} {env : En} (h : EnvOk H0 g σ env) {i : Nat} {w : EV} (e : env[i]? = some w) : ∃ v, σ[i]? = some v ∧ EvOk H0 g v w := by
  have hi : i < σ.length := by rw [h.len]; exact (List.getElem?_eq_some_iff.mp e).1
  exact ⟨σ[i], List.getElem?_eq_getElem hi, h.at_ i _ w (List.getElem?_eq_getElem hi) e⟩
theorem EnvOk.var {H0 : Hp} {g : G} {σ : L2.St} {env : En} (h : EnvOk H0 g σ env) {i : Nat} {d : D} (e : env[i]? = some (.f d)) : ∃ v, σ[i]? = some (some v) ∧ Rp g.F g.p v d := by
  obtain ⟨v, h1, w, h2, h3⟩ := h.get e
  exact ⟨w, by rw [h1, h2], h3⟩
/-- a slot takes data -/
theorem EnvOk.set {H0 : Hp} {g : G} {σ : L2.St} {env : En} (h : EnvOk H0 g σ env) (i : Nat) {v : V} {d : D} (r : Rp g.F g.p v d) : EnvOk H0 g (σ.set i (some v)) (env.set i (.f d)) := by
  refine ⟨by simp [h.len], fun j w x a b => ?_, fun j k w x x' ne a b c d' o o' => ?_⟩
  · by_cases hj : i = j
    · subst hj
      have hi : i < env.length := by
        have := (List.getElem?_eq_some_iff.mp b).1
        simpa using this
      rw [List.getElem?_set_self hi] at b
      rw [List.getElem?_set_self (by rw [h.len]; exact hi)] at a
      cases a; cases b
      exact ⟨v, rfl, r⟩
    · rw [List.getElem?_set_ne hj] at a b
      exact h.at_ j w x a b
  · by_cases hj : i = j
    · subst hj
      have hi : i < env.length := by
        have := (List.getElem?_eq_some_iff.mp c).1
        simpa using this
      rw [List.getElem?_set_self hi] at c
      cases c
      cases o
    · by_cases hk : i = k
      · subst hk
        have hi : i < env.length := by
          have := (List.getElem?_eq_some_iff.mp d').1
          simpa using this
        rw [List.getElem?_set_self hi] at d'
        cases d'
        cases o'
      · rw [List.getElem?_set_ne hj] at a c
        rw [List.getElem?_set_ne hk] at b d'
        exact h.apart j k w x x' ne a b c d' o o'
end Dn

namespace Dn
open PySem L2

/-! ### what is wanted of an expression -/
section
variable (m : Bool) (ca : Ct)
def okE (g : G) (Q : VK) : D → Store → Prop := fun d S' => ∀ g' v, Ext m g g' → SOk ca g' S' → Rp g'.F g'.p v d → Q v g'.H
def okT (g : G) (Q : Bool → Hp → Prop) : Bool → Store → Prop := fun b S' => ∀ g', Ext m g g' → SOk ca g' S' → Q b g'.H
def okA (g : G) (Q : List V → Hp → Prop) : List D → Store → Prop := fun ds S' => ∀ g' vs, Ext m g g' → SOk ca g' S' → RpA g'.F g'.p vs ds → Q vs g'.H
/-- a new list of nobody's -/
def okO (g : G) (Q : VK) : List D → Store → Prop := fun ds S' => ∀ g' q vs, Ext m g g' → SOk ca g' S' → g.H q = none → g'.H q = some (.lst vs) → g'.F q = none → (∀ l, g'.p l ≠ some q) → RpA g'.F g'.p vs ds → Q (.ref q) g'.H
/-- a new dict of nobody's -/
def okK (g : G) (Q : VK) : List (Key × D) → Store → Prop := fun ds S' => ∀ g' q vs, Ext m g g' → SOk ca g' S' → g.H q = none → g'.H q = some (.dK vs) → g'.F q = none → (∀ l, g'.p l ≠ some q) → RpK g'.F g'.p vs ds → Q (.ref q) g'.H
def exE (W : WX) (g : G) (σ : L2.St) : Str → Store → Prop := fun c S' => ∀ g', Ext m g g' → SOk ca g' S' → W (.ref (ca c)) none σ g'.H
variable {m ca}
theorem okE.mono {g g1 : G} {Q : VK} {d : D} {S : Store} (h : okE m ca g Q d S) (e : Ext m g g1) : okE m ca g1 Q d S := fun g' v e' s r => h g' v (e.trans e') s r
theorem okT.mono {g g1 : G} {Q : Bool → Hp → Prop} {d : Bool} {S : Store} (h : okT m ca g Q d S) (e : Ext m g g1) : okT m ca g1 Q d S := fun g' e' s => h g' (e.trans e') s
theorem okA.mono {g g1 : G} {Q : List V → Hp → Prop} {d : List D} {S : Store} (h : okA m ca g Q d S) (e : Ext m g g1) : okA m ca g1 Q d S := fun g' v e' s r => h g' v (e.trans e') s r
theorem okO.mono {g g1 : G} {Q : VK} {d : List D} {S : Store} (h : okO m ca g Q d S) (e : Ext m g g1) : okO m ca g1 Q d S := fun g' q v e' s n a b c r => h g' q v (e.trans e') s (e.dom _ n) a b c r
theorem okK.mono {g g1 : G} {Q : VK} {d : List (Key × D)} {S : Store} (h : okK m ca g Q d S) (e : Ext m g g1) : okK m ca g1 Q d S := fun g' q v e' s n a b c r => h g' q v (e.trans e') s (e.dom _ n) a b c r
theorem exE.mono {W : WX} {g g1 : G} {σ : L2.St} {c : Str} {S : Store} (h : exE m ca W g σ c S) (e : Ext m g g1) : exE m ca W g1 σ c S := fun g' e' s => h g' (e.trans e') s
end

/-- read as d for now: data, or a list (a dict) of the frame's own; while nothing of the store is written, of a field's own, too -/
def Bo (m : Bool) (g : G) (q : Addr) : Prop := g.F q = none ∧ ((∀ l, g.p l ≠ some q) ∨ (m = true ∧ ∃ l, g.p l = some q))
theorem Bo.ext {m : Bool} {g g' : G} {q : Addr} {o : HO} (h : Bo m g q) (hq : g.H q = some o) (hS : ∀ l a, g'.p l = some a → g'.F a = none) (e : Ext m g g') : Bo m g' q ∧ g'.H q = some o := by
  obtain ⟨h1, h2 | ⟨h2, l, h3⟩⟩ := h
  · obtain ⟨a, b, c⟩ := e.stay q o hq h1 h2
    exact ⟨⟨b, .inl c⟩, a⟩
  · obtain ⟨k1, k2⟩ := e.pure h2
    have k3 : g'.p l = some q := by rw [k1]; exact h3
    exact ⟨⟨hS l q k3, .inr ⟨h2, l, k3⟩⟩, k2 l q o h3 hq⟩
def Rb (m : Bool) (g : G) (v : V) (d : D) : Prop := Rp g.F g.p v d ∨ (∃ q vs xs, v = .ref q ∧ d = .lst xs ∧ g.H q = some (.lst vs) ∧ Bo m g q ∧ RpA g.F g.p vs xs) ∨
  ∃ q vs xs, v = .ref q ∧ d = .dct xs ∧ g.H q = some (.dK vs) ∧ Bo m g q ∧ RpK g.F g.p vs xs
theorem Rb.ext {m : Bool} {ca : Ct} {S : Store} {g g' : G} {v : V} {d : D} (h : Rb m g v d) (hS : SOk ca g' S) (e : Ext m g g') : Rb m g' v d := by
  rcases h with h | ⟨q, vs, xs, h1, h2, h3, h4, h6⟩ | ⟨q, vs, xs, h1, h2, h3, h4, h6⟩
  · exact .inl (e.rp h)
  · obtain ⟨a, b⟩ := h4.ext h3 hS.out e
    exact .inr (.inl ⟨q, vs, xs, h1, h2, b, a, e.rpA h6⟩)
  · obtain ⟨a, b⟩ := h4.ext h3 hS.out e
    exact .inr (.inr ⟨q, vs, xs, h1, h2, b, a, e.rpK h6⟩)
def okB (m : Bool) (ca : Ct) (g : G) (Q : VK) : D → Store → Prop := fun d S' => ∀ g' v, Ext m g g' → SOk ca g' S' → Rb m g' v d → Q v g'.H
def DB (m : Bool) (X : Cx) (W : WX) (ca : Ct) (e : Expr) (f : En → M D) : Prop :=
  ∃ t, PE X e t ∧ ∀ H0 g S σ env, SOk ca g S → EnvOk H0 g σ env → ∀ Q : VK, (f env S).sat (okB m ca g Q) (exE m ca W g σ) → t σ g.H Q
def DE (m : Bool) (X : Cx) (W : WX) (ca : Ct) (e : Expr) (f : En → M D) : Prop :=
  ∃ t, PE X e t ∧ ∀ H0 g S σ env, SOk ca g S → EnvOk H0 g σ env → ∀ Q : VK, (f env S).sat (okE m ca g Q) (exE m ca W g σ) → t σ g.H Q
def DO (m : Bool) (X : Cx) (W : WX) (ca : Ct) (e : Expr) (f : En → M (List D)) : Prop :=
  ∃ t, PE X e t ∧ ∀ H0 g S σ env, SOk ca g S → EnvOk H0 g σ env → ∀ Q : VK, (f env S).sat (okO m ca g Q) (exE m ca W g σ) → t σ g.H Q
def DK (m : Bool) (X : Cx) (W : WX) (ca : Ct) (e : Expr) (f : En → M (List (Key × D))) : Prop :=
  ∃ t, PE X e t ∧ ∀ H0 g S σ env, SOk ca g S → EnvOk H0 g σ env → ∀ Q : VK, (f env S).sat (okK m ca g Q) (exE m ca W g σ) → t σ g.H Q
def DT (m : Bool) (X : Cx) (W : WX) (ca : Ct) (e : Expr) (f : En → M Bool) : Prop :=
  ∃ t, PT X e t ∧ ∀ H0 g S σ env, SOk ca g S → EnvOk H0 g σ env → ∀ Q : Bool → Hp → Prop, (f env S).sat (okT m ca g Q) (exE m ca W g σ) → t σ g.H Q
def DW (m : Bool) (X : Cx) (W : WX) (ca : Ct) (e : Expr) (f : En → M Bool) : Prop :=
  ∃ t, PW X e t ∧ ∀ H0 g S σ env, SOk ca g S → EnvOk H0 g σ env → ∀ Q : Bool → Hp → Prop, (f env S).sat (okT m ca g Q) (exE m ca W g σ) → t σ g.H Q
def DA (m : Bool) (X : Cx) (W : WX) (ca : Ct) (es : List Expr) (f : En → M (List D)) : Prop :=
  ∃ t, PA X es t ∧ ∀ H0 g S σ env, SOk ca g S → EnvOk H0 g σ env → ∀ Q : List V → Hp → Prop, (f env S).sat (okA m ca g Q) (exE m ca W g σ) → t σ g.H Q

/-- a new list as data -/
def eO (f : En → M (List D)) : En → M D := fun env => M.bind (f env) fun xs => M.ret (.lst xs)
theorem DE.b {m : Bool} {X : Cx} {W : WX} {ca : Ct} {e : Expr} {f : En → M D} (h : DE m X W ca e f) : DB m X W ca e f := by
  obtain ⟨t, p, k⟩ := h
  exact ⟨t, p, fun H0 g S σ env hS hE Q h => k H0 g S σ env hS hE Q (sat_mono h (fun d S' q g' v e s r => q g' v e s (.inl r)) fun _ _ q => q)⟩
theorem DO.b {m : Bool} {X : Cx} {W : WX} {ca : Ct} {e : Expr} {f : En → M (List D)} (h : DO m X W ca e f) : DB m X W ca e (eO f) := by
  obtain ⟨t, p, k⟩ := h
  refine ⟨t, p, fun H0 g S σ env hS hE Q h => k H0 g S σ env hS hE Q (sat_mono (sat_bind h) (fun xs S' q g' a vs e s n h1 h2 h3 r => ?_) fun _ _ q => q)⟩
  have q : okB m ca g Q (.lst xs) S' := q
  exact q g' _ e s (.inr (.inl ⟨a, vs, xs, rfl, rfl, h1, ⟨h2, .inl h3⟩, r⟩))

/-! ### new objects -/
theorem FsOk.keep {m : Bool} {g g' : G} {n : Nat} (e : Ext m g g') (hp : ∀ l a, g.p l = some a → g'.p l = some a) (hH : ∀ l a o, g.p l = some a → g.H a = some o → g'.H a = some o) :
    ∀ {vs : List (Str × V)} {ws : List (Str × FV)}, FsOk g n vs ws → FsOk g' n vs ws
  | _, _, .nil => .nil
  | _, _, .cons (w := w) h t z => .cons (by
      cases w with
      | f d => exact e.rp h
      | o xs => obtain ⟨l, vs, h1, h2, h3, h4⟩ := h; exact ⟨l, vs, h1, hp _ _ h2, hH _ _ _ h2 h3, e.rpA h4⟩
      | k xs => obtain ⟨l, vs, h1, h2, h3, h4⟩ := h; exact ⟨l, vs, h1, hp _ _ h2, hH _ _ _ h2 h3, e.rpK h4⟩) (FsOk.keep e hp hH t) z
/-- all that stood stands, the places are the same -/
theorem SOk.keep {m : Bool} {ca : Ct} {g g' : G} {S : Store} (h : SOk ca g S) (e : Ext m g g') (hp : g'.p = g.p) (hH : ∀ l a o, g.p l = some a → g.H a = some o → g'.H a = some o) (hs : Same g'.F g'.H) (ho : ∀ l a, g.p l = some a → g'.F a = none) (hz : ∀ a o u, g.H a = some (.frz o u) → g'.H a = some (.frz o u)) : SOk ca g' S where
  same := hs
  inj := by rw [hp]; exact h.inj
  out := by rw [hp]; exact ho
  live := fun l a q => by
    rw [hp] at q
    obtain ⟨o, h1⟩ := h.live l a q
    exact ⟨o, hH l a o q h1⟩
  obs := fun n ob q hc => by
    obtain ⟨a, dx, fs, h1, h2, h3⟩ := h.obs n ob q hc
    exact ⟨a, dx, fs, by rw [hp]; exact h1, hH _ _ _ h1 h2, h3.keep e (fun l a z => by rw [hp]; exact z) hH⟩
  sc := fun a ns q => (h.sc a ns (by rw [← hp]; exact q)).keep hz
  lt := by rw [hp]; exact h.lt
  lf := by rw [hp]; exact h.lf
  raw := fun n ob q hc => by
    obtain ⟨a, h1, h2⟩ := h.raw n ob q hc
    exact ⟨a, by rw [hp]; exact h1, h2.mv e.same e.obs fun o x => hH _ _ _ h1 x⟩
theorem Same.updL {F H : Hp} {q : Addr} {o : HO} (h : Same F H) (n : H q = none) : Same F (upd H q o) := fun b u e => by
  rw [upd_ne (ne_of_none (h _ _ e) n)]; exact h _ _ e
theorem Same.updB {F H : Hp} {q : Addr} {o : HO} (h : Same F H) (n : H q = none) : Same (upd F q o) (upd H q o) := fun b u e => by
  by_cases z : b = q
  · subst z; rw [upd_same] at e ⊢; exact e
  · rw [upd_ne z] at e ⊢; exact h _ _ e
theorem Same.upF {F : Hp} {q : Addr} {o : HO} (n : F q = none) : Same F (upd F q o) := fun b u e => by
  rw [upd_ne (ne_of_none e n)]; exact e
section
variable {m : Bool} {ca : Ct} {g : G} {S : Store}
theorem SOk.free (h : SOk ca g S) {q : Addr} (n : g.H q = none) : g.F q = none := h.same.free n
theorem SOk.nop (h : SOk ca g S) {q : Addr} (n : g.H q = none) : ∀ l, g.p l ≠ some q := fun l e => by
  obtain ⟨o, h1⟩ := h.live l q e
  rw [n] at h1; cases h1
/-- new data -/
def G.fz (g : G) (q : Addr) (o : HO) : G := ⟨upd g.F q o, upd g.H q o, g.p⟩
/-- a new object of nobody's -/
def G.nw (g : G) (q : Addr) (o : HO) : G := ⟨g.F, upd g.H q o, g.p⟩
theorem ext_nw (hS : SOk ca g S) {q : Addr} (n : g.H q = none) (o : HO) : Ext m g (g.nw q o) :=
  ⟨Same.refl _, fun b u h f k => ⟨by show upd g.H q o b = _; rw [upd_ne (ne_of_none h n)]; exact h, f, k⟩, PiLe.refl _, fun b h => by
    have h : upd g.H q o b = none := h
    by_cases z : b = q
    · subst z; exact n
    · rw [upd_ne z] at h; exact h, fun _ => ⟨rfl, fun l a u _ h => by show upd g.H q o a = _; rw [upd_ne (ne_of_none h n)]; exact h⟩, fun a _ _ h => by show upd g.H q o a = _; rw [upd_ne (ne_of_none h n)]; exact h⟩
theorem sok_nw (hS : SOk ca g S) {q : Addr} (n : g.H q = none) (o : HO) : SOk ca (g.nw q o) S :=
  hS.keep (ext_nw (m := true) hS n o) rfl (fun l a u h1 h2 => by show upd g.H q o a = _; rw [upd_ne (ne_of_none h2 n)]; exact h2) (Same.updL hS.same n) hS.out fun a u w h => by show upd g.H q o a = _; rw [upd_ne (ne_of_none h n)]; exact h
theorem ext_fz (hS : SOk ca g S) {q : Addr} (n : g.H q = none) (o : HO) : Ext m g (g.fz q o) :=
  ⟨Same.upF (hS.free n), fun b u h f k => ⟨by show upd g.H q o b = _; rw [upd_ne (ne_of_none h n)]; exact h, by show upd g.F q o b = _; rw [upd_ne (ne_of_none h n)]; exact f, k⟩, PiLe.refl _, fun b h => by
    have h : upd g.H q o b = none := h
    by_cases z : b = q
    · subst z; exact n
    · rw [upd_ne z] at h; exact h, fun _ => ⟨rfl, fun l a u _ h => by show upd g.H q o a = _; rw [upd_ne (ne_of_none h n)]; exact h⟩, fun a _ _ h => by show upd g.H q o a = _; rw [upd_ne (ne_of_none h n)]; exact h⟩
theorem sok_fz (hS : SOk ca g S) {q : Addr} (n : g.H q = none) (o : HO) : SOk ca (g.fz q o) S :=
  hS.keep (ext_fz (m := true) hS n o) rfl (fun l a u h1 h2 => by show upd g.H q o a = _; rw [upd_ne (ne_of_none h2 n)]; exact h2) (Same.updB hS.same n) (fun l a e => by
    show upd g.F q o a = _
    obtain ⟨u, hu⟩ := hS.live l a e
    rw [upd_ne (ne_of_none hu n)]
    exact hS.out l a e) fun a u w h => by show upd g.H q o a = _; rw [upd_ne (ne_of_none h n)]; exact h
/-- what is nobody's becomes data -/
def G.fr (g : G) (q : Addr) (o : HO) : G := ⟨upd g.F q o, g.H, g.p⟩
theorem ext_fr {g0 : G} (e : Ext m g0 g) {q : Addr} {o : HO} (n : g0.H q = none) (hf : g.F q = none) : Ext m g0 (g.fr q o) :=
  ⟨e.same.trans (Same.upF hf), fun b u h f k => by
    obtain ⟨h1, f1, k1⟩ := e.stay b u h f k
    refine ⟨h1, ?_, k1⟩
    show upd g.F q o b = _
    rw [upd_ne (ne_of_none h n)]
    exact f1, e.obs, e.dom, e.pure, e.frz⟩
theorem sok_fr (hS : SOk ca g S) {q : Addr} {o : HO} (hq : g.H q = some o) (hf : g.F q = none) (hp : ∀ l, g.p l ≠ some q) : SOk ca (g.fr q o) S := by
  have ob : PiLe g.p (g.fr q o).p := PiLe.refl _
  have sm : Same g.F (g.fr q o).F := Same.upF hf
  refine ⟨fun b u e => ?_, hS.inj, fun l a e => ?_, hS.live, fun n o' h hc => ?_, hS.sc, hS.lt, hS.lf, fun n o' h hc => (hS.raw n o' h hc).imp fun a h => ⟨h.1, h.2.mv sm ob fun _ x => x⟩⟩
  · have e : upd g.F q o b = some u := e
    by_cases z : b = q
    · subst z; rw [upd_same] at e; cases e; exact hq
    · rw [upd_ne z] at e; exact hS.same _ _ e
  · show upd g.F q o a = none
    rw [upd_ne (fun z => hp l (by rw [← z]; exact e))]
    exact hS.out l a e
  · obtain ⟨a, dx, fs, h1, h2, h3⟩ := hS.obs n o' h hc
    refine ⟨a, dx, fs, h1, h2, ?_⟩
    clear h1 h2 h
    generalize o'.fs = ws at h3
    induction h3 with
    | nil => exact .nil
    | @cons f v w vs ws h t z ih =>
      refine .cons ?_ ih z
      cases w with
      | f d => exact Rp.mono sm ob h
      | o xs => obtain ⟨l, vs, h1, h2, h3, h4⟩ := h; exact ⟨l, vs, h1, h2, h3, RpA.mono sm ob h4⟩
      | k xs => obtain ⟨l, vs, h1, h2, h3, h4⟩ := h; exact ⟨l, vs, h1, h2, h3, RpK.mono sm ob h4⟩
theorem rp_lst {q : Addr} {vs : List V} {ds : List D} (hn : g.F q = none) (r : RpA g.F g.p vs ds) : Rp (upd g.F q (.lst vs)) g.p (.ref q) (.lst ds) :=
  .lst upd_same (RpA.mono (Same.upF hn) (PiLe.refl _) r)
theorem rp_tup {q : Addr} {vs : List V} {ds : List D} (hn : g.F q = none) (r : RpA g.F g.p vs ds) : Rp (upd g.F q (.tup vs)) g.p (.ref q) (.tup ds) :=
  .tup upd_same (RpA.mono (Same.upF hn) (PiLe.refl _) r)
theorem rp_dct {q : Addr} {vs : List (Key × V)} {ds : List (Key × D)} (hn : g.F q = none) (r : RpK g.F g.p vs ds) : Rp (upd g.F q (.dK vs)) g.p (.ref q) (.dct ds) :=
  .dct upd_same (RpK.mono (Same.upF hn) (PiLe.refl _) r)
end

/-! ### sequencing -/
section
variable {m : Bool} {ca : Ct} {W : WX} {α β : Type}
theorem seqE {c : M α} {k : α → M D} {S : Store} {g : G} {σ : L2.St} {Q : VK} (h : (M.bind c k S).sat (okE m ca g Q) (exE m ca W g σ)) :
    (c S).sat (fun a S' => ∀ g', Ext m g g' → (k a S').sat (okE m ca g' Q) (exE m ca W g' σ)) (exE m ca W g σ) :=
  sat_mono (sat_bind h) (fun a S' h g' e => sat_mono h (fun d S2 q => q.mono e) fun c S2 q => q.mono e) fun _ _ q => q
theorem seqO {c : M α} {k : α → M (List D)} {S : Store} {g : G} {σ : L2.St} {Q : VK} (h : (M.bind c k S).sat (okO m ca g Q) (exE m ca W g σ)) :
    (c S).sat (fun a S' => ∀ g', Ext m g g' → (k a S').sat (okO m ca g' Q) (exE m ca W g' σ)) (exE m ca W g σ) :=
  sat_mono (sat_bind h) (fun a S' h g' e => sat_mono h (fun d S2 q => q.mono e) fun c S2 q => q.mono e) fun _ _ q => q
theorem seqK {c : M α} {k : α → M (List (Key × D))} {S : Store} {g : G} {σ : L2.St} {Q : VK} (h : (M.bind c k S).sat (okK m ca g Q) (exE m ca W g σ)) :
    (c S).sat (fun a S' => ∀ g', Ext m g g' → (k a S').sat (okK m ca g' Q) (exE m ca W g' σ)) (exE m ca W g σ) :=
  sat_mono (sat_bind h) (fun a S' h g' e => sat_mono h (fun d S2 q => q.mono e) fun c S2 q => q.mono e) fun _ _ q => q
theorem seqT {c : M α} {k : α → M Bool} {S : Store} {g : G} {σ : L2.St} {Q : Bool → Hp → Prop} (h : (M.bind c k S).sat (okT m ca g Q) (exE m ca W g σ)) :
    (c S).sat (fun a S' => ∀ g', Ext m g g' → (k a S').sat (okT m ca g' Q) (exE m ca W g' σ)) (exE m ca W g σ) :=
  sat_mono (sat_bind h) (fun a S' h g' e => sat_mono h (fun d S2 q => q.mono e) fun c S2 q => q.mono e) fun _ _ q => q
theorem seqA {c : M α} {k : α → M (List D)} {S : Store} {g : G} {σ : L2.St} {Q : List V → Hp → Prop} (h : (M.bind c k S).sat (okA m ca g Q) (exE m ca W g σ)) :
    (c S).sat (fun a S' => ∀ g', Ext m g g' → (k a S').sat (okA m ca g' Q) (exE m ca W g' σ)) (exE m ca W g σ) :=
  sat_mono (sat_bind h) (fun a S' h g' e => sat_mono h (fun d S2 q => q.mono e) fun c S2 q => q.mono e) fun _ _ q => q
theorem seqB {c : M α} {k : α → M D} {S : Store} {g : G} {σ : L2.St} {Q : VK} (h : (M.bind c k S).sat (okB m ca g Q) (exE m ca W g σ)) :
    (c S).sat (fun a S' => ∀ g', Ext m g g' → (k a S').sat (okB m ca g' Q) (exE m ca W g' σ)) (exE m ca W g σ) :=
  sat_mono (sat_bind h) (fun a S' h g' e => sat_mono h (fun d S2 q g2 v e2 s r => q g2 v (e.trans e2) s r) fun c S2 q => q.mono e) fun _ _ q => q
end
def M.lift {α : Type} (o : Option α) : M α := fun S => match o with
  | some a => .ok a S
  | none => .bad
theorem sat_lift {α : Type} {o : Option α} {S : Store} {P : α → Store → Prop} {E : Str → Store → Prop} (h : (M.lift o S).sat P E) : ∃ a, o = some a ∧ P a S := by
  cases o with
  | none => exact h.elim
  | some a => exact ⟨a, rfl, h⟩

/-! ### names, constants -/
def eVar (i : Nat) : En → M D := fun env => match env[i]? with
  | some (.f d) => M.ret d
  | _ => M.bad
def eC (d : D) : En → M D := fun _ => M.ret d
section
variable {m : Bool} {X : Cx} {W : WX} {ca : Ct}
theorem eVar_get {i : Nat} {env : En} {S : Store} {P : D → Store → Prop} {E : Str → Store → Prop} (h : (eVar i env S).sat P E) : ∃ d, env[i]? = some (.f d) ∧ P d S := by
  unfold eVar at h
  cases e : env[i]? with
  | none => rw [e] at h; exact h.elim
  | some w =>
    rw [e] at h
    cases w with
    | f d => exact ⟨d, rfl, h⟩
    | u => exact h.elim
    | x a => exact h.elim
    | o xs => exact h.elim
    | k xs => exact h.elim
theorem de_var (i : Nat) {x : Str} {pos : Pos} (hN : X.N[i]? = some x := by rfl) (hv : Vis X.env.scope x := by first | exact Or.inl rfl | exact Or.inr (Or.inl rfl) | exact Or.inr (Or.inr rfl)) (hd : (x == ("__debug__" : Str)) = false := by decide)
    (hcd : (x == ("__classdict__" : Str)) = false := by decide) : DE m X W ca (.Name x pos) (eVar i) :=
  ⟨_, pe_var hN hv hd hcd, fun H0 g S σ env hS hE Q h => by
    obtain ⟨d, e, h⟩ := eVar_get h
    obtain ⟨v, h1, h2⟩ := hE.var e
    exact ⟨v, h1, h g v (Ext.refl g) hS h2⟩⟩
/-- a name of any kind, read for now -/
def eVarB (i : Nat) : En → M D := fun env => match env[i]? with
  | some (.f d) => M.ret d
  | some (.o xs) => M.ret (.lst xs)
  | some (.k xs) => M.ret (.dct xs)
  | _ => M.bad
theorem db_var (i : Nat) {x : Str} {pos : Pos} (hN : X.N[i]? = some x := by rfl) (hv : Vis X.env.scope x := by first | exact Or.inl rfl | exact Or.inr (Or.inl rfl) | exact Or.inr (Or.inr rfl)) (hd : (x == ("__debug__" : Str)) = false := by decide)
    (hcd : (x == ("__classdict__" : Str)) = false := by decide) : DB m X W ca (.Name x pos) (eVarB i) :=
  ⟨_, pe_var hN hv hd hcd, fun H0 g S σ env hS hE Q h => by
    unfold eVarB at h
    cases e : env[i]? with
    | none => rw [e] at h; exact h.elim
    | some w =>
      rw [e] at h
      obtain ⟨v, h1, h2⟩ := hE.get e
      cases w with
      | u => exact h.elim
      | x a => exact h.elim
      | f d =>
        obtain ⟨w, rfl, r⟩ := h2
        exact ⟨w, h1, (show okB m ca g Q d S from h) g w (Ext.refl g) hS (.inl r)⟩
      | o xs =>
        obtain ⟨q, vs, rfl, h3, h4, h5⟩ := h2
        exact ⟨.ref q, h1, (show okB m ca g Q (.lst xs) S from h) g _ (Ext.refl g) hS (.inr (.inl ⟨q, vs, xs, rfl, rfl, h3, ⟨h5.out, .inl h5.nop⟩, h4⟩))⟩
      | k xs =>
        obtain ⟨q, vs, rfl, h3, h4, h5⟩ := h2
        exact ⟨.ref q, h1, (show okB m ca g Q (.dct xs) S from h) g _ (Ext.refl g) hS (.inr (.inr ⟨q, vs, xs, rfl, rfl, h3, ⟨h5.out, .inl h5.nop⟩, h4⟩))⟩⟩
theorem de_int {i j pos} : DE m X W ca (.Constant (.int i) j pos) (eC (.int i)) := ⟨_, pe_int, fun H0 g S σ env hS hE Q h => h g _ (Ext.refl g) hS (.int i)⟩
theorem de_bl {i j pos} : DE m X W ca (.Constant (.bool i) j pos) (eC (.bl i)) := ⟨_, pe_bl, fun H0 g S σ env hS hE Q h => h g _ (Ext.refl g) hS (.bl i)⟩
theorem de_non {j pos} : DE m X W ca (.Constant .none j pos) (eC .non) := ⟨_, pe_non, fun H0 g S σ env hS hE Q h => h g _ (Ext.refl g) hS .non⟩
theorem de_str {x j pos} : DE m X W ca (.Constant (.str x) j pos) (eC (.str x)) := ⟨_, pe_str, fun H0 g S σ env hS hE Q h => h g _ (Ext.refl g) hS (.str x)⟩
/-- a constant of the module that is an int -/
theorem de_glob {x : Str} {i : Int} {t : Tok} {pos : Pos} (hg : Gl X x) (hm : X.mg x = some (.int i t)) (hd : (x == ("__debug__" : Str)) = false := by decide) : DE m X W ca (.Name x pos) (eC (.int i)) :=
  ⟨_, pe_glob (v := .int i) hg hm ⟨t, rfl⟩ hd, fun H0 g S σ env hS hE Q h => h g _ (Ext.refl g) hS (.int i)⟩
/-- a new list becomes data -/
theorem de_own {e : Expr} {f : En → M (List D)} (h : DO m X W ca e f) : DE m X W ca e (eO f) := by
  obtain ⟨t, p, k⟩ := h
  refine ⟨t, p, fun H0 g S σ env hS hE Q h => k H0 g S σ env hS hE Q (sat_mono (sat_bind h) (fun xs S' q g' a vs e1 s1 n h1 h2 h3 r => ?_) fun _ _ q => q)⟩
  have q : okE m ca g Q (.lst xs) S' := q
  exact q (g'.fr a (.lst vs)) (.ref a) (ext_fr e1 n h2) (sok_fr s1 h1 h2 h3) (rp_lst h2 r)
theorem de_ownK {e : Expr} {f : En → M (List (Key × D))} (h : DK m X W ca e f) : DE m X W ca e (fun env => M.bind (f env) fun xs => M.ret (.dct xs)) := by
  obtain ⟨t, p, k⟩ := h
  refine ⟨t, p, fun H0 g S σ env hS hE Q h => k H0 g S σ env hS hE Q (sat_mono (sat_bind h) (fun xs S' q g' a vs e1 s1 n h1 h2 h3 r => ?_) fun _ _ q => q)⟩
  have q : okE m ca g Q (.dct xs) S' := q
  exact q (g'.fr a (.dK vs)) (.ref a) (ext_fr e1 n h2) (sok_fr s1 h1 h2 h3) (rp_dct h2 r)

/-! ### argument lists, displays -/
def aNil : En → M (List D) := fun _ => M.ret []
def aCons (f : En → M D) (r : En → M (List D)) : En → M (List D) := fun env => M.bind (f env) fun d => M.bind (r env) fun ds => M.ret (d :: ds)
theorem da_nil : DA m X W ca [] aNil := ⟨_, pa_nil, fun H0 g S σ env hS hE Q h => h g [] (Ext.refl g) hS .nil⟩
theorem da_cons {e : Expr} {es : List Expr} {f : En → M D} {r : En → M (List D)} (h1 : DE m X W ca e f) (h2 : DA m X W ca es r) (hs : starEach (e :: es) X.env = (false, eval e X.env) :: starEach es X.env := by rfl) : DA m X W ca (e :: es) (aCons f r) := by
  obtain ⟨t, p, k⟩ := h1
  obtain ⟨t2, p2, k2⟩ := h2
  refine ⟨_, pa_cons p p2 hs, fun H0 g S σ env hS hE Q h => ?_⟩
  refine k H0 g S σ env hS hE _ (sat_mono (seqA h) (fun d S1 q g1 v e1 s1 r1 => ?_) fun _ _ q => q)
  refine k2 H0 g1 S1 σ env s1 (hE.ext e1) _ (sat_mono (seqA (q g1 e1)) (fun ds S2 q2 g2 vs e2 s2 r2 => ?_) fun _ _ q => q)
  exact (show okA m ca g2 Q (d :: ds) S2 from q2 g2 e2) g2 _ (Ext.refl g2) s2 (.cons (e2.rp r1) r2)
def lim : Nat := 1000000
theorem lim_line : lim ≤ sizeLine := by rw [sizeLine_eq]; decide
theorem lim_lt {n : Nat} (h : n ≤ lim) : n ≤ sizeLine := Nat.le_trans h lim_line
theorem lim_lt' {n : Nat} (h : n < lim) : n < sizeLine := Nat.lt_of_lt_of_le h lim_line
def eTup (a : En → M (List D)) : En → M D := fun env => M.bind (a env) fun ds => if ds.length ≤ lim then M.ret (.tup ds) else M.bad
def eLst (a : En → M (List D)) : En → M (List D) := fun env => M.bind (a env) fun ds => if ds.length ≤ lim then M.ret ds else M.bad
theorem de_tup {es : List Expr} {x1 : Nat} {pos : Pos} {a : En → M (List D)} (h : DA m X W ca es a) : DE m X W ca (.Tuple es x1 pos) (eTup a) := by
  obtain ⟨t, p, k⟩ := h
  refine ⟨_, pe_tup p, fun H0 g S σ env hS hE Q h => k H0 g S σ env hS hE _ (sat_mono (seqE h) (fun ds S1 q g1 vs e1 s1 r1 => ?_) fun _ _ q => q)⟩
  have q := q g1 e1
  by_cases hl : ds.length ≤ lim
  · rw [if_pos hl] at q
    refine ⟨by rw [r1.length]; exact lim_lt hl, fun a ha => ?_⟩
    exact (show okE m ca g1 Q (.tup ds) S1 from q) (g1.fz a (.tup vs)) _ (ext_fz s1 ha _) (sok_fz s1 ha _) (rp_tup (s1.free ha) r1)
  · rw [if_neg hl] at q; exact q.elim
theorem do_lst {es : List Expr} {pos : Pos} {a : En → M (List D)} (h : DA m X W ca es a) : DO m X W ca (.List es pos) (eLst a) := by
  obtain ⟨t, p, k⟩ := h
  refine ⟨_, pe_lst p, fun H0 g S σ env hS hE Q h => k H0 g S σ env hS hE _ (sat_mono (seqO h) (fun ds S1 q g1 vs e1 s1 r1 => ?_) fun _ _ q => q)⟩
  have q := q g1 e1
  by_cases hl : ds.length ≤ lim
  · rw [if_pos hl] at q
    refine ⟨by rw [r1.length]; exact lim_lt hl, fun a ha => ?_⟩
    exact (show okO m ca g1 Q ds S1 from q) (g1.nw a (.lst vs)) a vs (ext_nw s1 ha _) (sok_nw s1 ha _) ha upd_same (s1.free ha) (s1.nop ha) r1
  · rw [if_neg hl] at q; exact q.elim
end
end Dn

namespace Dn
open PySem L2

/-! ### operators of two places -/
/-- op tells what r gives -/
def RelOp (r : R2) (op : D → D → Option D) : Prop := ∀ (m : Bool) (ca : Ct) (g : G) (S : Store) (x y : V) (dx dy z : D) (Q : VK), SOk ca g S → Rb m g x dx → Rb m g y dy → op dx dy = some z → okE m ca g Q z S → r x y g.H Q
def eBin (op : D → D → Option D) (a b : En → M D) : En → M D := fun env => M.bind (a env) fun x => M.bind (b env) fun y => M.lift (op x y)
def tBin (op : D → D → Option Bool) (a b : En → M D) : En → M Bool := fun env => M.bind (a env) fun x => M.bind (b env) fun y => M.lift (op x y)
def obl (o : D → D → Option Bool) : D → D → Option D := fun x y => (o x y).map D.bl
section
variable {m : Bool} {X : Cx} {W : WX} {ca : Ct} {a b e : Expr} {fa fb : En → M D} {pos : Pos}
theorem run2 {ta tb : TE} {r : R2} {op : D → D → Option D} (ho : RelOp r op)
    (ka : ∀ H0 g S σ env, SOk ca g S → EnvOk H0 g σ env → ∀ Q : VK, (fa env S).sat (okB m ca g Q) (exE m ca W g σ) → ta σ g.H Q)
    (kb : ∀ H0 g S σ env, SOk ca g S → EnvOk H0 g σ env → ∀ Q : VK, (fb env S).sat (okB m ca g Q) (exE m ca W g σ) → tb σ g.H Q) :
    ∀ H0 g S σ env, SOk ca g S → EnvOk H0 g σ env → ∀ Q : VK, (eBin op fa fb env S).sat (okE m ca g Q) (exE m ca W g σ) → tOp r ta tb σ g.H Q := fun H0 g S σ env hS hE Q h => by
  refine ka H0 g S σ env hS hE _ (sat_mono (seqE h) (fun x S1 q g1 v e1 s1 r1 => ?_) fun _ _ q => q)
  refine kb H0 g1 S1 σ env s1 (hE.ext e1) _ (sat_mono (seqE (q g1 e1)) (fun y S2 q2 g2 u e2 s2 r2 => ?_) fun _ _ q => q)
  obtain ⟨z, hz, k⟩ := sat_lift (q2 g2 e2)
  exact ho m ca g2 S2 v u x y z Q s2 (r1.ext s2 e2) r2 hz k
theorem de_bin {o : Operator} {r : R2} {op : D → D → Option D} (hr : OpR X (binaryOp o) r) (ho : RelOp r op) (ha : DB m X W ca a fa) (hb : DB m X W ca b fb) : DE m X W ca (.BinOp a o b pos) (eBin op fa fb) := by
  obtain ⟨ta, pa, ka⟩ := ha
  obtain ⟨tb, pb, kb⟩ := hb
  exact ⟨_, pe_op hr pa pb, run2 ho ka kb⟩
theorem de_cmp {o : CmpOp} {r : R2} {op : D → D → Option Bool} (hr : OpR X (compareOp o) r) (ho : RelOp r (obl op)) (ha : DB m X W ca a fa) (hb : DB m X W ca b fb) (hm : behindInMarks o b = false) : DE m X W ca (.Compare a [o] [b] pos) (eBin (obl op) fa fb) := by
  obtain ⟨ta, pa, ka⟩ := ha
  obtain ⟨tb, pb, kb⟩ := hb
  exact ⟨_, pe_cmpR hr pa pb hm, run2 ho ka kb⟩
theorem dt_cmp {o : CmpOp} {r : R2} {op : D → D → Option Bool} (hr : OpR X (compareOp o) r) (ho : RelOp r (obl op)) (ha : DB m X W ca a fa) (hb : DB m X W ca b fb) (hm : behindInMarks o b = false) : DT m X W ca (.Compare a [o] [b] pos) (tBin op fa fb) := by
  obtain ⟨ta, pa, ka⟩ := ha
  obtain ⟨tb, pb, kb⟩ := hb
  refine ⟨_, pt_cmpR hr pa pb hm, fun H0 g S σ env hS hE Q h => ?_⟩
  refine run2 ho ka kb H0 g S σ env hS hE (fun x H' => ∃ k, x = .bl k ∧ Q k H') ?_
  unfold tBin at h
  unfold eBin
  cases e1 : fa env S with
  | bad => unfold M.bind at h; rw [e1] at h; exact h.elim
  | exc c S' => unfold M.bind at h ⊢; rw [e1] at h ⊢; exact h
  | ok x S1 =>
    unfold M.bind at h ⊢
    rw [e1] at h ⊢
    dsimp only at h ⊢
    cases e2 : fb env S1 with
    | bad => rw [e2] at h; exact h.elim
    | exc c S' => rw [e2] at h; exact h
    | ok y S2 =>
      rw [e2] at h
      dsimp only at h ⊢
      obtain ⟨k, hk, q⟩ := sat_lift h
      have q : okT m ca g Q k S2 := q
      unfold M.lift obl
      rw [hk]
      show okE m ca g (fun x H' => ∃ k, x = V.bl k ∧ Q k H') (.bl k) S2
      intro g' v e s r
      cases r
      exact ⟨k, rfl, q g' e s⟩

/-! ### ints, texts, lists -/
theorem Rb.int {m : Bool} {g : G} {x : V} {i : Int} (r : Rb m g x (.int i)) : x = .int i := by
  rcases r with r | ⟨_, _, _, _, h, _⟩ | ⟨_, _, _, _, h, _⟩
  · cases r; rfl
  · cases h
  · cases h
theorem Rb.str {m : Bool} {g : G} {x : V} {i : Str} (r : Rb m g x (.str i)) : x = .str i := by
  rcases r with r | ⟨_, _, _, _, h, _⟩ | ⟨_, _, _, _, h, _⟩
  · cases r; rfl
  · cases h
  · cases h
theorem Rb.bl {m : Bool} {g : G} {x : V} {i : Bool} (r : Rb m g x (.bl i)) : x = .bl i := by
  rcases r with r | ⟨_, _, _, _, h, _⟩ | ⟨_, _, _, _, h, _⟩
  · cases r; rfl
  · cases h
  · cases h
theorem Rb.non {m : Bool} {g : G} {x : V} (r : Rb m g x .non) : x = .non := by
  rcases r with r | ⟨_, _, _, _, h, _⟩ | ⟨_, _, _, _, h, _⟩
  · cases r; rfl
  · cases h
  · cases h
theorem Rb.lst {m : Bool} {ca : Ct} {S : Store} {g : G} (hS : SOk ca g S) {x : V} {ds : List D} (r : Rb m g x (.lst ds)) : ∃ a vs, x = .ref a ∧ g.H a = some (.lst vs) ∧ RpA g.F g.p vs ds := by
  rcases r with r | ⟨q, vs, xs, h1, h2, h3, h4, h6⟩ | ⟨_, _, _, _, h, _⟩
  · cases r with
    | lst h t => exact ⟨_, _, rfl, hS.same _ _ h, t⟩
  · cases h2; exact ⟨q, vs, h1, h3, h6⟩
  · cases h
theorem Rb.tup {m : Bool} {ca : Ct} {S : Store} {g : G} (hS : SOk ca g S) {x : V} {ds : List D} (r : Rb m g x (.tup ds)) : ∃ a vs, x = .ref a ∧ g.H a = some (.tup vs) ∧ RpA g.F g.p vs ds := by
  rcases r with r | ⟨_, _, _, _, h, _⟩ | ⟨_, _, _, _, h, _⟩
  · cases r with
    | tup h t => exact ⟨_, _, rfl, hS.same _ _ h, t⟩
  · cases h
  · cases h
/-- as read off the heap -/
theorem Rb.h {m : Bool} {ca : Ct} {S : Store} {g : G} (hS : SOk ca g S) {x : V} {d : D} (r : Rb m g x d) : Rp g.H g.p x d := by
  rcases r with r | ⟨q, vs, xs, rfl, rfl, h3, h4, h6⟩ | ⟨q, vs, xs, rfl, rfl, h3, h4, h6⟩
  · exact Rp.mono hS.same (PiLe.refl _) r
  · exact .lst h3 (RpA.mono hS.same (PiLe.refl _) h6)
  · exact .dct h3 (RpK.mono hS.same (PiLe.refl _) h6)
theorem relI0 {g : Int → Int → Int} {op : D → D → Option D} (h : ∀ x y z, op x y = some z → ∃ i j, x = .int i ∧ y = .int j ∧ z = .int (g i j)) : RelOp (rI0 fun i j => .int (g i j)) op := fun m ca g0 S x y dx dy z Q hS r1 r2 e k => by
  obtain ⟨i, j, rfl, rfl, rfl⟩ := h _ _ _ e
  cases r1.int; cases r2.int
  exact ⟨i, j, rfl, rfl, k g0 _ (Ext.refl _) hS (.int _)⟩
theorem relI {C : Int → Int → Prop} {g : Int → Int → Int} {op : D → D → Option D} (h : ∀ x y z, op x y = some z → ∃ i j, x = .int i ∧ y = .int j ∧ C i j ∧ z = .int (g i j)) : RelOp (rI C fun i j => .int (g i j)) op := fun m ca g0 S x y dx dy z Q hS r1 r2 e k => by
  obtain ⟨i, j, rfl, rfl, hc, rfl⟩ := h _ _ _ e
  cases r1.int; cases r2.int
  exact ⟨i, j, rfl, rfl, hc, k g0 _ (Ext.refl _) hS (.int _)⟩
theorem relB {g : Int → Int → Bool} {op : D → D → Option Bool} (h : ∀ x y z, op x y = some z → ∃ i j, x = .int i ∧ y = .int j ∧ z = g i j) : RelOp (rI0 fun i j => .bl (g i j)) (obl op) := fun m ca g0 S x y dx dy z Q hS r1 r2 e k => by
  unfold obl at e
  cases e2 : op dx dy with
  | none => rw [e2] at e; cases e
  | some w =>
    rw [e2] at e; cases e
    obtain ⟨i, j, rfl, rfl, rfl⟩ := h _ _ _ e2
    cases r1.int; cases r2.int
    exact ⟨i, j, rfl, rfl, k g0 _ (Ext.refl _) hS (.bl _)⟩
def subD : D → D → Option D
  | .int i, .int j => some (.int (i - j))
  | _, _ => none
def mulD : D → D → Option D
  | .int i, .int j => if (-(2 ^ 64) < i ∧ i < 2 ^ 64) ∨ (-(2 ^ 64) < j ∧ j < 2 ^ 64) then some (.int (i * j)) else none
  | .str a, .int n => if a.length ≤ 16 ∧ -1000000 ≤ n ∧ n ≤ 1000000 then some (.str (Txt.mul a n)) else none
  | _, _ => none
def divD : D → D → Option D
  | .int i, .int j => if 0 < j ∧ j < 1073741824 then some (.int (i / j)) else none
  | _, _ => none
def modD : D → D → Option D
  | .int i, .int j => if 0 < j then some (.int (i % j)) else none
  | _, _ => none
def powD : D → D → Option D
  | .int i, .int j => if 0 ≤ j ∧ j ≤ 1000000 ∧ i.natAbs < 2 ^ 64 then some (.int (i ^ j.toNat)) else none
  | _, _ => none
def addD : D → D → Option D
  | .int i, .int j => some (.int (i + j))
  | .str a, .str b => if a.length + b.length ≤ lim then some (.str (a ++ b)) else none
  | .lst xs, .lst ys => if xs.length + ys.length ≤ lim then some (.lst (xs ++ ys)) else none
  | .tup xs, .tup ys => if xs ≠ [] ∧ ys ≠ [] ∧ xs.length + ys.length ≤ lim then some (.tup (xs ++ ys)) else none
  | _, _ => none
def ltD : D → D → Option Bool
  | .int i, .int j => some (decide (i < j))
  | _, _ => none
def leD : D → D → Option Bool
  | .int i, .int j => some (decide (i ≤ j))
  | _, _ => none
def gtD : D → D → Option Bool
  | .int i, .int j => some (decide (j < i))
  | _, _ => none
def geD : D → D → Option Bool
  | .int i, .int j => some (decide (j ≤ i))
  | _, _ => none
theorem subD_ok {x y z : D} (h : subD x y = some z) : ∃ i j, x = .int i ∧ y = .int j ∧ z = .int (i - j) := by
  unfold subD at h; split at h
  · cases h; exact ⟨_, _, rfl, rfl, rfl⟩
  · cases h
theorem de_sub (ha : DB m X W ca a fa) (hb : DB m X W ca b fb) : DE m X W ca (.BinOp a .Sub b pos) (eBin subD fa fb) := de_bin op_sub (relI0 fun _ _ _ => subD_ok) ha hb
theorem op_txtMul {X : Cx} : OpR X (binaryOp .Mult) (fun x y H Q => ∃ a n, x = .str a ∧ y = .int n ∧ a.length ≤ 16 ∧ -1000000 ≤ n ∧ n ≤ 1000000 ∧ Q (.str (Txt.mul a n)) H) := fun pins s σ H x y v u Q I rx ry h => by
  obtain ⟨a, n, rfl, rfl, h1, h2, h3, q⟩ := h
  obtain ⟨t, rfl⟩ := rx
  obtain ⟨t2, rfl⟩ := ry
  exact PySem.W.KXi.mul rfl h1 (by omega) (by omega) fun t' k _ _ => ⟨.str _, H, I.tok k, ⟨t', rfl⟩, q⟩
theorem de_mul (ha : DB m X W ca a fa) (hb : DB m X W ca b fb) : DE m X W ca (.BinOp a .Mult b pos) (eBin mulD fa fb) := de_bin (op_mul.or op_txtMul) (fun m ca g0 S x y dx dy z Q hS r1 r2 e k => by
  unfold mulD at e
  split at e
  · split at e
    · rename_i c
      cases e
      cases r1.int; cases r2.int
      exact .inl ⟨_, _, rfl, rfl, c, k g0 _ (Ext.refl _) hS (.int _)⟩
    · cases e
  · split at e
    · rename_i c
      cases e
      cases r2.int
      cases r1.h hS with
      | str => exact .inr ⟨_, _, rfl, rfl, c.1, c.2.1, c.2.2, k g0 _ (Ext.refl _) hS (.str _)⟩
    · cases e
  · cases e) ha hb
theorem de_div (ha : DB m X W ca a fa) (hb : DB m X W ca b fb) : DE m X W ca (.BinOp a .FloorDiv b pos) (eBin divD fa fb) := de_bin op_fdiv (relI fun x y z h => by
  unfold divD at h; split at h
  · split at h
    · rename_i c; cases h; exact ⟨_, _, rfl, rfl, c, rfl⟩
    · cases h
  · cases h) ha hb
theorem de_mod (ha : DB m X W ca a fa) (hb : DB m X W ca b fb) : DE m X W ca (.BinOp a .Mod b pos) (eBin modD fa fb) := de_bin op_mod (relI fun x y z h => by
  unfold modD at h; split at h
  · split at h
    · rename_i c; cases h; exact ⟨_, _, rfl, rfl, c, rfl⟩
    · cases h
  · cases h) ha hb
theorem de_pow (ha : DB m X W ca a fa) (hb : DB m X W ca b fb) : DE m X W ca (.BinOp a .Pow b pos) (eBin powD fa fb) := de_bin op_pow (relI fun x y z h => by
  unfold powD at h; split at h
  · split at h
    · rename_i c; cases h; exact ⟨_, _, rfl, rfl, c, rfl⟩
    · cases h
  · cases h) ha hb
theorem rel_add {K : PySem.W.Frag} : RelOp (fun x y H Q => rI0 (fun i j => .int (i + j)) x y H Q ∨ (∃ i j, x = .str i ∧ y = .str j ∧ i.length + j.length ≤ sizeLine ∧ Q (.str (i ++ j)) H) ∨ rCat x y H Q ∨ rCatT K x y H Q) addD :=
  fun m ca g S x y dx dy z Q hS r1 r2 e k => by
    unfold addD at e
    split at e
    · cases e; cases r1.int; cases r2.int
      exact .inl ⟨_, _, rfl, rfl, k g _ (Ext.refl _) hS (.int _)⟩
    · split at e
      · rename_i c; cases e; cases r1.str; cases r2.str
        exact .inr (.inl ⟨_, _, rfl, rfl, lim_lt c, k g _ (Ext.refl _) hS (.str _)⟩)
      · cases e
    · split at e
      · rename_i c
        cases e
        obtain ⟨p, vs, rfl, h1, q1⟩ := r1.lst hS
        obtain ⟨p', ws, rfl, h2, q2⟩ := r2.lst hS
        refine .inr (.inr (.inl ⟨p, p', vs, ws, rfl, rfl, h1, h2, by rw [q1.length, q2.length]; exact lim_lt c, fun l hl => ?_⟩))
        exact k (g.fz l _) _ (ext_fz hS hl _) (sok_fz hS hl _) (rp_lst (hS.free hl) (q1.append q2))
      · cases e
    · split at e
      · rename_i c
        cases e
        obtain ⟨p, vs, rfl, h1, q1⟩ := r1.tup hS
        obtain ⟨p', ws, rfl, h2, q2⟩ := r2.tup hS
        have l1 := q1.length
        have l2 := q2.length
        have c1 : vs ≠ [] := fun z => c.1 (List.length_eq_zero_iff.mp (by rw [← l1, z]; rfl))
        have c2 : ws ≠ [] := fun z => c.2.1 (List.length_eq_zero_iff.mp (by rw [← l2, z]; rfl))
        refine .inr (.inr (.inr ⟨p, p', vs, ws, rfl, rfl, SqT.of h1, SqT.of h2, c1, by rw [l1, l2]; exact lim_lt c.2.2, fun z => absurd z c2, fun _ l hl => ?_⟩))
        exact k (g.fz l _) _ (ext_fz hS hl _) (sok_fz hS hl _) (rp_tup (hS.free hl) (q1.append q2))
      · cases e
    · cases e
theorem de_add (ha : DB m X W ca a fa) (hb : DB m X W ca b fb) : DE m X W ca (.BinOp a .Add b pos) (eBin addD fa fb) :=
  de_bin (op_add.or (op_add_str.or (op_cat.or op_catT))) rel_add ha hb
/-- xs + ys, a new list of nobody's -/
def oCat (a b : En → M D) : En → M (List D) := fun env => M.bind (a env) fun x => M.bind (b env) fun y => match x, y with
  | .lst xs, .lst ys => if xs.length + ys.length ≤ lim then M.ret (xs ++ ys) else M.bad
  | _, _ => M.bad
theorem do_cat (ha : DB m X W ca a fa) (hb : DB m X W ca b fb) : DO m X W ca (.BinOp a .Add b pos) (oCat fa fb) := by
  obtain ⟨ta, pa, ka⟩ := ha
  obtain ⟨tb, pb, kb⟩ := hb
  refine ⟨_, pe_op op_cat pa pb, fun H0 g S σ env hS hE Q h => ?_⟩
  refine ka H0 g S σ env hS hE _ (sat_mono (seqO h) (fun x S1 q g1 v e1 s1 r1 => ?_) fun _ _ q => q)
  refine kb H0 g1 S1 σ env s1 (hE.ext e1) _ (sat_mono (seqO (q g1 e1)) (fun y S2 q2 g2 u e2 s2 r2 => ?_) fun _ _ q => q)
  have q2 := q2 g2 e2
  have r1 := r1.ext s2 e2
  cases x with
  | lst xs =>
    cases y with
    | lst ys =>
      dsimp only at q2
      by_cases c : xs.length + ys.length ≤ lim
      · rw [if_pos c] at q2
        have q2 : okO m ca g2 Q (xs ++ ys) S2 := q2
        obtain ⟨p, vs, rfl, h1, q1⟩ := r1.lst s2
        obtain ⟨p', ws, rfl, h2, q3⟩ := r2.lst s2
        refine ⟨p, p', vs, ws, rfl, rfl, h1, h2, by rw [q1.length, q3.length]; exact lim_lt c, fun l hl => ?_⟩
        exact q2 (g2.nw l _) l _ (ext_nw s2 hl _) (sok_nw s2 hl _) hl upd_same (s2.free hl) (s2.nop hl) (q1.append q3)
      · rw [if_neg c] at q2; exact q2.elim
    | _ => exact q2.elim
  | _ => exact q2.elim
theorem de_lt (ha : DB m X W ca a fa) (hb : DB m X W ca b fb) : DE m X W ca (.Compare a [.Lt] [b] pos) (eBin (obl ltD) fa fb) := de_cmp op_lt (relB fun x y z h => by
  unfold ltD at h; split at h
  · cases h; exact ⟨_, _, rfl, rfl, rfl⟩
  · cases h) ha hb (nomark _)
theorem dt_lt (ha : DB m X W ca a fa) (hb : DB m X W ca b fb) : DT m X W ca (.Compare a [.Lt] [b] pos) (tBin ltD fa fb) := dt_cmp op_lt (relB fun x y z h => by
  unfold ltD at h; split at h
  · cases h; exact ⟨_, _, rfl, rfl, rfl⟩
  · cases h) ha hb (nomark _)
theorem de_le (ha : DB m X W ca a fa) (hb : DB m X W ca b fb) : DE m X W ca (.Compare a [.LtE] [b] pos) (eBin (obl leD) fa fb) := de_cmp op_le (relB fun x y z h => by
  unfold leD at h; split at h
  · cases h; exact ⟨_, _, rfl, rfl, rfl⟩
  · cases h) ha hb (nomark _)
theorem dt_le (ha : DB m X W ca a fa) (hb : DB m X W ca b fb) : DT m X W ca (.Compare a [.LtE] [b] pos) (tBin leD fa fb) := dt_cmp op_le (relB fun x y z h => by
  unfold leD at h; split at h
  · cases h; exact ⟨_, _, rfl, rfl, rfl⟩
  · cases h) ha hb (nomark _)
theorem de_gt (ha : DB m X W ca a fa) (hb : DB m X W ca b fb) : DE m X W ca (.Compare a [.Gt] [b] pos) (eBin (obl gtD) fa fb) := de_cmp op_gt (relB fun x y z h => by
  unfold gtD at h; split at h
  · cases h; exact ⟨_, _, rfl, rfl, rfl⟩
  · cases h) ha hb (nomark _)
theorem dt_gt (ha : DB m X W ca a fa) (hb : DB m X W ca b fb) : DT m X W ca (.Compare a [.Gt] [b] pos) (tBin gtD fa fb) := dt_cmp op_gt (relB fun x y z h => by
  unfold gtD at h; split at h
  · cases h; exact ⟨_, _, rfl, rfl, rfl⟩
  · cases h) ha hb (nomark _)
theorem de_ge (ha : DB m X W ca a fa) (hb : DB m X W ca b fb) : DE m X W ca (.Compare a [.GtE] [b] pos) (eBin (obl geD) fa fb) := de_cmp op_ge (relB fun x y z h => by
  unfold geD at h; split at h
  · cases h; exact ⟨_, _, rfl, rfl, rfl⟩
  · cases h) ha hb (nomark _)
theorem dt_ge (ha : DB m X W ca a fa) (hb : DB m X W ca b fb) : DT m X W ca (.Compare a [.GtE] [b] pos) (tBin geD fa fb) := dt_cmp op_ge (relB fun x y z h => by
  unfold geD at h; split at h
  · cases h; exact ⟨_, _, rfl, rfl, rfl⟩
  · cases h) ha hb (nomark _)

/-! ### is None -/
def isN : D → Bool
  | .non => true
  | _ => false
theorem isN_v {F : Hp} {p : Pi} {x : V} {d : D} (r : Rp F p x d) : decide (x = .non) = isN d := by
  cases r <;> first | rfl | (exact decide_eq_false (fun z => nomatch z))
def isD : D → D → Option Bool
  | x, .non => some (isN x)
  | .bl a, .bl b => some (decide (a = b))
  | _, _ => none
def isnD : D → D → Option Bool
  | x, .non => some (!isN x)
  | .bl a, .bl b => some (!decide (a = b))
  | _, _ => none
abbrev rIsA : R2 := fun x y H Q => (y = .non ∧ Q (.bl (decide (x = .non))) H) ∨ ∃ a b, x = .bl a ∧ y = .bl b ∧ Q (.bl (decide (a = b))) H
abbrev rIsnA : R2 := fun x y H Q => (y = .non ∧ Q (.bl (!decide (x = .non))) H) ∨ ∃ a b, x = .bl a ∧ y = .bl b ∧ Q (.bl (!decide (a = b))) H
theorem isD_non (x : D) : isD x .non = some (isN x) := by cases x <;> rfl
theorem isnD_non (x : D) : isnD x .non = some (!isN x) := by cases x <;> rfl
theorem rel_is : RelOp rIsA (obl isD) := fun m ca g S x y dx dy z Q hS r1 r2 e k => by
  cases dy with
  | non =>
    have e : (isD dx .non).map D.bl = some z := e
    rw [isD_non] at e
    cases r2.non; cases e
    exact .inl ⟨rfl, by rw [isN_v (r1.h hS)]; exact k g _ (Ext.refl _) hS (.bl _)⟩
  | bl b =>
    cases dx with
    | bl a =>
      cases e
      cases r1.h hS with
      | bl => cases r2.h hS with
        | bl => exact .inr ⟨a, b, rfl, rfl, k g _ (Ext.refl _) hS (.bl _)⟩
    | _ => cases e
  | _ => cases dx <;> cases e
theorem rel_isn : RelOp rIsnA (obl isnD) := fun m ca g S x y dx dy z Q hS r1 r2 e k => by
  cases dy with
  | non =>
    have e : (isnD dx .non).map D.bl = some z := e
    rw [isnD_non] at e
    cases r2.non; cases e
    exact .inl ⟨rfl, by rw [isN_v (r1.h hS)]; exact k g _ (Ext.refl _) hS (.bl _)⟩
  | bl b =>
    cases dx with
    | bl a =>
      cases e
      cases r1.h hS with
      | bl => cases r2.h hS with
        | bl => exact .inr ⟨a, b, rfl, rfl, k g _ (Ext.refl _) hS (.bl _)⟩
    | _ => cases e
  | _ => cases dx <;> cases e
theorem op_isA {X : Cx} : OpR X (compareOp .Is) rIsA := op_isN.or op_is_bl
theorem op_isnA {X : Cx} : OpR X (compareOp .IsNot) rIsnA := op_notN.or op_isnot_bl
theorem de_is (ha : DB m X W ca a fa) (hb : DB m X W ca b fb) : DE m X W ca (.Compare a [.Is] [b] pos) (eBin (obl isD) fa fb) := de_cmp op_isA rel_is ha hb (nomark _)
theorem dt_is (ha : DB m X W ca a fa) (hb : DB m X W ca b fb) : DT m X W ca (.Compare a [.Is] [b] pos) (tBin isD fa fb) := dt_cmp op_isA rel_is ha hb (nomark _)
theorem de_isn (ha : DB m X W ca a fa) (hb : DB m X W ca b fb) : DE m X W ca (.Compare a [.IsNot] [b] pos) (eBin (obl isnD) fa fb) := de_cmp op_isnA rel_isn ha hb (nomark _)
theorem dt_isn (ha : DB m X W ca a fa) (hb : DB m X W ca b fb) : DT m X W ca (.Compare a [.IsNot] [b] pos) (tBin isnD fa fb) := dt_cmp op_isnA rel_isn ha hb (nomark _)
end

/-! ### == -/
mutual
def toPy : D → PyData
  | .non => .none
  | .bl b => .bool b
  | .int i => .int i
  | .str x => .str x
  | .lst xs => .list (toPyA xs)
  | .tup xs => .tuple (toPyA xs)
  | .dct _ => .dict []
  | .scr _ => .dict []
  | .obj _ => .dict []
def toPyA : List D → List PyData
  | [] => []
  | d :: ds => toPy d :: toPyA ds
end
def scalD : D → D → Bool
  | .non, .non => true | .non, .int _ => true | .int _, .non => true | .non, .bl _ => true | .bl _, .non => true | .non, .str _ => true | .str _, .non => true
  | .int _, .int _ => true | .bl _, .bl _ => true | .str _, .str _ => true
  | .int _, .str _ => true | .str _, .int _ => true | .bl _, .str _ => true | .str _, .bl _ => true
  | _, _ => false
def shpD (d : D) : Bool := SeqAt.shaped (toPy d)
def eqD (x y : D) : Option Bool := if scalD x y = true ∨ (shpD x = true ∧ shpD y = true) then some (PyData.eqv (toPy x) (toPy y)) else none
def neD (x y : D) : Option Bool := (eqD x y).map (!·)
section
variable {F H : Hp} {p : Pi} {K : PySem.W.Frag}
theorem ints_dp : ∀ (ns : List Int), DpAll K H (ns.map V.int) (ns.map PyData.int)
  | [] => .nil
  | n :: ns => .cons (.int n) (ints_dp ns)
mutual
theorem dp_of (s : Same F H) : ∀ {v : V} {d : D}, Rp F p v d → (toPy d).canLay0 = true → Dp K H v (toPy d)
  | _, _, .non, _ => .non
  | _, _, .bl b, _ => .bl b
  | _, _, .int b, _ => .int b
  | _, _, .str b, _ => .str b
  | _, _, .lst h t, c => .lst (SqL.of (s _ _ h)) (dpA_of s t (by simpa [toPy, PyData.canLay0] using c))
  | _, _, .tup h t, c => .tup (SqT.of (s _ _ h)) (dpA_of s t (by simpa [toPy, PyData.canLay0] using c))
  | _, _, .dct h t, c => by simp [toPy, PyData.canLay0] at c
  | _, _, .scr h, c => by simp [toPy, PyData.canLay0] at c
  | _, _, .obj h, c => by simp [toPy, PyData.canLay0] at c
theorem dpA_of (s : Same F H) : ∀ {v : List V} {d : List D}, RpA F p v d → PyData.canLayAll0 (toPyA d) = true → DpAll K H v (toPyA d)
  | _, _, .nil, _ => .nil
  | _, _, .cons h t, c => by
    simp only [toPyA, PyData.canLayAll0, Bool.and_eq_true] at c
    exact .cons (dp_of s h c.1) (dpA_of s t c.2)
end
end
theorem scal_eq {F : Hp} {p : Pi} {x y : V} {dx dy : D} (r1 : Rp F p x dx) (r2 : Rp F p y dy) (h : scalD dx dy = true) : scal x y = true ∧ decide (x = y) = PyData.eqv (toPy dx) (toPy dy) := by
  cases r1 <;> cases r2 <;> first
    | (simp [scalD] at h; done)
    | exact ⟨rfl, by simp [toPy, PyData.eqv, Bool.beq_eq_decide_eq]⟩
    | exact ⟨rfl, by simp [toPy, PyData.eqv]; rw [Bool.eq_iff_iff]; simp⟩
theorem rel_eq {K : PySem.W.Frag} : RelOp (fun x y H Q => rEq x y H Q ∨ rEqD K x y H Q) (obl eqD) := fun m ca g S x y dx dy z Q hS r1 r2 e k => by
  unfold obl eqD at e
  split at e
  · rename_i c
    cases e
    have k := k g _ (Ext.refl _) hS (.bl _)
    rcases c with c | ⟨c1, c2⟩
    · obtain ⟨q1, q2⟩ := scal_eq (r1.h hS) (r2.h hS) c
      exact .inl ⟨q1, by rw [q2]; exact k⟩
    · exact .inr ⟨_, _, dp_of (Same.refl _) (r1.h hS) (SeqAt.canLay_of_shaped c1), dp_of (Same.refl _) (r2.h hS) (SeqAt.canLay_of_shaped c2), c1, c2, k⟩
  · cases e
theorem rel_ne {K : PySem.W.Frag} : RelOp (fun x y H Q => rNe x y H Q ∨ rNeD K x y H Q) (obl neD) := fun m ca g S x y dx dy z Q hS r1 r2 e k => by
  unfold obl neD eqD at e
  split at e
  · rename_i c
    cases e
    have k := k g _ (Ext.refl _) hS (.bl _)
    rcases c with c | ⟨c1, c2⟩
    · obtain ⟨q1, q2⟩ := scal_eq (r1.h hS) (r2.h hS) c
      exact .inl ⟨q1, by rw [q2]; exact k⟩
    · exact .inr ⟨_, _, dp_of (Same.refl _) (r1.h hS) (SeqAt.canLay_of_shaped c1), dp_of (Same.refl _) (r2.h hS) (SeqAt.canLay_of_shaped c2), c1, c2, k⟩
  · cases e
section
variable {m : Bool} {X : Cx} {W : WX} {ca : Ct} {a b e : Expr} {fa fb : En → M D} {pos : Pos} {k : Nat}
theorem de_eq (hu : X.A.units + 64 < cLine) (ha : DB m X W ca a fa) (hb : DB m X W ca b fb) : DE m X W ca (.Compare a [.Eq] [b] pos) (eBin (obl eqD) fa fb) := de_cmp (op_eq.or (op_eqD hu)) rel_eq ha hb (nomark _)
theorem dt_eq (hu : X.A.units + 64 < cLine) (ha : DB m X W ca a fa) (hb : DB m X W ca b fb) : DT m X W ca (.Compare a [.Eq] [b] pos) (tBin eqD fa fb) := dt_cmp (op_eq.or (op_eqD hu)) rel_eq ha hb (nomark _)
theorem de_ne (hu : X.A.units + 64 < cLine) (ha : DB m X W ca a fa) (hb : DB m X W ca b fb) : DE m X W ca (.Compare a [.NotEq] [b] pos) (eBin (obl neD) fa fb) := de_cmp (op_ne.or (op_neD hu)) rel_ne ha hb (nomark _)
theorem dt_ne (hu : X.A.units + 64 < cLine) (ha : DB m X W ca a fa) (hb : DB m X W ca b fb) : DT m X W ca (.Compare a [.NotEq] [b] pos) (tBin neD fa fb) := dt_cmp (op_ne.or (op_neD hu)) rel_ne ha hb (nomark _)
end

/-! ### in -/
/-- a dict's keys, its look -/
def keyD : D → Option Key
  | .int i => some (.inl i)
  | .str s => some (.inr s)
  | _ => none
def getK (kvs : List (Key × D)) (k : Key) : Option D := (kvs.find? fun kv => decide (kv.1 = k)).map (·.2)
def dgetD : D → D → Option D
  | .dct kvs, y => (keyD y).bind (getK kvs)
  | _, _ => none
theorem getK_v {F : Hp} {p : Pi} {vs : List (Key × V)} {ds : List (Key × D)} (r : RpK F p vs ds) (k : Key) :
    (getK ds k = none ∧ valV vs k = none) ∨ ∃ d v, getK ds k = some d ∧ valV vs k = some v ∧ Rp F p v d := by
  induction ds generalizing vs with
  | nil => cases r; exact .inl ⟨rfl, rfl⟩
  | cons x ds ih =>
    cases r with
    | @cons k' v d vs _ h t =>
      by_cases e : k' = k
      · exact .inr ⟨d, v, by simp [getK, List.find?_cons, e], by simp [valV, List.find?_cons, e], h⟩
      · have e1 : getK ((k', d) :: ds) k = getK ds k := by simp [getK, List.find?_cons, e]
        have e2 : valV ((k', v) :: vs) k = valV vs k := by simp [valV, List.find?_cons, e]
        rw [e1, e2]
        exact ih t
theorem keyD_v {F : Hp} {p : Pi} {y : V} {d : D} {k : Key} (r : Rp F p y d) (h : keyD d = some k) : y = kV k := by
  cases r <;> cases h <;> rfl
theorem Rb.dct {m : Bool} {ca : Ct} {S : Store} {g : G} (hS : SOk ca g S) {x : V} {ds : List (Key × D)} (r : Rb m g x (.dct ds)) : ∃ a vs, x = .ref a ∧ g.H a = some (.dK vs) ∧ RpK g.F g.p vs ds := by
  rcases r with r | ⟨_, _, _, _, h, _⟩ | ⟨q, vs, xs, h1, h2, h3, h4, h6⟩
  · cases r with
    | dct h t => exact ⟨_, _, rfl, hS.same _ _ h, t⟩
  · cases h
  · cases h2; exact ⟨q, vs, h1, h3, h6⟩
def flatD : D → Bool
  | .non => true | .bl _ => true | .int _ => true | .str _ => true
  | _ => false
def eqF : D → D → Bool
  | .non, .non => true
  | .bl a, .bl b => a == b
  | .bl a, .int b => (if a then 1 else 0) == b
  | .int a, .bl b => a == (if b then 1 else 0)
  | .int a, .int b => a == b
  | .str a, .str b => a == b
  | _, _ => false
def inF (x : D) (xs : List D) : Bool := xs.any fun y => eqF y x
def inStr (i j : Str) : Bool := !(Builtin.Str.occurrences j i 0 j.length 1).isEmpty
def inK (x : D) (kvs : List (Key × D)) : Option Bool := match keyD x with
  | some k => some (getK kvs k).isSome
  | none => if isN x = true then some false else none
def inD : D → D → Option Bool
  | .str i, .str j => some (inStr i j)
  | x, .lst ys => if flatD x = true ∧ ys.all flatD = true then some (inF x ys) else if shpD x = true ∧ shpD (.lst ys) = true then some ((toPyA ys).any fun z => PyData.eqv z (toPy x)) else none
  | x, .tup ys => if flatD x = true ∧ ys.all flatD = true then some (inF x ys) else none
  | x, .dct kvs => inK x kvs
  | _, _ => none
def ninD (x y : D) : Option Bool := (inD x y).map (!·)
section
variable {F : Hp} {p : Pi}
theorem flat_v {x : V} {d : D} (r : Rp F p x d) (h : flatD d = true) : flatV x = true := by
  cases r <;> first | rfl | (simp [flatD] at h)
theorem flat_vA {xs : List V} {ds : List D} (r : RpA F p xs ds) (h : ds.all flatD = true) : xs.all flatV = true := by
  induction ds generalizing xs with
  | nil => cases r; rfl
  | cons d ds ih =>
    cases r with
    | cons r t =>
      simp only [List.all_cons, Bool.and_eq_true] at h ⊢
      exact ⟨flat_v r h.1, ih t h.2⟩
theorem eqF_v {x y : V} {d e : D} (r : Rp F p x d) (q : Rp F p y e) : flatD d = true → eqV x y = eqF d e := fun h => by
  cases r <;> first | (cases q <;> rfl) | (simp [flatD] at h)
theorem inF_v {x : V} {d : D} {xs : List V} {ds : List D} (r : Rp F p x d) (t : RpA F p xs ds) (h : ds.all flatD = true) : inV x xs = inF d ds := by
  unfold inV inF
  induction ds generalizing xs with
  | nil => cases t; rfl
  | cons e ds ih =>
    cases t with
    | cons q t =>
      simp only [List.all_cons, Bool.and_eq_true] at h
      simp only [List.any_cons, ih t h.2, eqF_v q r h.1]
end
def rInDct (f : Bool → Bool) : R2 := fun x y H Q => ∃ a, y = .ref a ∧ ((∃ o, DGet H a x o ∧ Q (.bl (f o.isSome)) H) ∨ (x = .non ∧ (∃ kvs, Rd H a (.dK kvs)) ∧ Q (.bl (f false)) H))
theorem op_in_dict {X : Cx} (hu : X.A.units + 65 < cLine) : OpR X (compareOp .In) (rInDct id) := by
  intro pins s σ H x y v u Q I rx ry h
  obtain ⟨a, rfl, h⟩ := h
  obtain rfl : u = Value.ref a := ry
  rcases h with ⟨o, g, q⟩ | ⟨rfl, ⟨kvs, g⟩, q⟩
  · exact d_in (by omega) I g rx fun s3 I3 => ⟨.bl o.isSome, H, I3, rfl, q⟩
  · obtain rfl : v = Value.none := rx
    exact d_inNone I g fun s3 I3 => ⟨.bl false, H, I3, rfl, q⟩
theorem op_notIn_dict {X : Cx} (hu : X.A.units + 65 < cLine) : OpR X (compareOp .NotIn) (rInDct (!·)) := by
  intro pins s σ H x y v u Q I rx ry h
  obtain ⟨a, rfl, h⟩ := h
  obtain rfl : u = Value.ref a := ry
  rcases h with ⟨o, g, q⟩ | ⟨rfl, ⟨kvs, g⟩, q⟩
  · exact d_notIn (by omega) I g rx fun s3 I3 => ⟨.bl (!o.isSome), H, I3, rfl, q⟩
  · obtain rfl : v = Value.none := rx
    exact d_notInNone I g fun s3 I3 => ⟨.bl true, H, I3, rfl, q⟩
theorem isN_is {F : Hp} {p : Pi} {y : V} {d : D} (r : Rp F p y d) (h : isN d = true) : y = .non := by
  cases r <;> first | rfl | (simp [isN] at h)
theorem rel_dct {m : Bool} {ca : Ct} {g : G} {S : Store} {v w : V} {dx : D} {kvs : List (Key × D)} {b : Bool} {f : Bool → Bool} {Q : VK} (hS : SOk ca g S) (r1 : Rb m g v dx) (r2 : Rb m g w (.dct kvs)) (e : inK dx kvs = some b) (k : Q (.bl (f b)) g.H) : rInDct f v w g.H Q := by
  obtain ⟨a, vs, rfl, h1, t⟩ := r2.dct hS
  refine ⟨a, rfl, ?_⟩
  unfold inK at e
  cases e1 : keyD dx with
  | some q =>
    rw [e1] at e
    cases e
    left
    rcases getK_v t q with ⟨q1, q2⟩ | ⟨d, v, q1, q2, q3⟩
    · exact ⟨none, by rw [keyD_v (r1.h hS) e1, ← q2]; exact DGet.k h1, by rw [q1] at k; exact k⟩
    · exact ⟨some v, by rw [keyD_v (r1.h hS) e1, ← q2]; exact DGet.k h1, by rw [q1] at k; exact k⟩
  | none =>
    rw [e1] at e
    dsimp only at e
    split at e
    · rename_i c
      cases e
      exact .inr ⟨isN_is (r1.h hS) c, ⟨vs, .inl h1⟩, k⟩
    · cases e
theorem rel_in {K : PySem.W.Frag} : RelOp (fun x y H Q => (∃ i j, x = .str i ∧ y = .str j ∧ Q (.bl (!(Builtin.Str.occurrences j i 0 j.length 1).isEmpty)) H) ∨ ((rIn K false x y H Q ∨ rInD K x y H Q) ∨ rInDct id x y H Q)) (obl inD) := fun m ca g S x y dx dy z Q hS r1 r2 e k => by
  unfold obl inD at e
  split at e
  · cases r1.str; cases r2.str; cases e
    exact .inl ⟨_, _, rfl, rfl, k g _ (Ext.refl _) hS (.bl _)⟩
  · split at e
    · rename_i c
      cases e
      obtain ⟨q, vs, rfl, h1, t⟩ := r2.lst hS
      exact .inr (.inl (.inl ⟨q, vs, rfl, .inl (SqL.of h1), flat_v (r1.h hS) c.1, flat_vA t c.2, by rw [inF_v (r1.h hS) (RpA.mono hS.same (PiLe.refl _) t) c.2]; exact k g _ (Ext.refl _) hS (.bl _)⟩))
    · split at e
      · rename_i c
        cases e
        exact .inr (.inl (.inr ⟨_, _, dp_of (Same.refl _) (r1.h hS) (SeqAt.canLay_of_shaped c.1), dp_of (Same.refl _) (r2.h hS) (SeqAt.canLay_of_shaped c.2), c.1, c.2, k g _ (Ext.refl _) hS (.bl _)⟩))
      · cases e
  · split at e
    · rename_i c
      cases e
      obtain ⟨q, vs, rfl, h1, t⟩ := r2.tup hS
      exact .inr (.inl (.inl ⟨q, vs, rfl, .inr (SqT.of h1), flat_v (r1.h hS) c.1, flat_vA t c.2, by rw [inF_v (r1.h hS) (RpA.mono hS.same (PiLe.refl _) t) c.2]; exact k g _ (Ext.refl _) hS (.bl _)⟩))
    · cases e
  · rename_i kvs
    generalize e1 : inK _ kvs = ob at e
    cases ob with
    | none => cases e
    | some b =>
      cases e
      exact .inr (.inr (rel_dct hS r1 r2 e1 (k g _ (Ext.refl _) hS (.bl _))))
  · cases e
theorem rel_nin {K : PySem.W.Frag} : RelOp (fun x y H Q => (∃ i j, x = .str i ∧ y = .str j ∧ Q (.bl (!(!(Builtin.Str.occurrences j i 0 j.length 1).isEmpty))) H) ∨ ((rIn K true x y H Q ∨ rNotInD K x y H Q) ∨ rInDct (!·) x y H Q)) (obl ninD) := fun m ca g S x y dx dy z Q hS r1 r2 e k => by
  unfold obl ninD inD at e
  split at e
  · cases r1.str; cases r2.str; cases e
    exact .inl ⟨_, _, rfl, rfl, k g _ (Ext.refl _) hS (.bl _)⟩
  · split at e
    · rename_i c
      cases e
      obtain ⟨q, vs, rfl, h1, t⟩ := r2.lst hS
      refine .inr (.inl (.inl ⟨q, vs, rfl, .inl (SqL.of h1), flat_v (r1.h hS) c.1, flat_vA t c.2, ?_⟩))
      show Q (.bl (!inV x vs)) g.H
      rw [inF_v (r1.h hS) (RpA.mono hS.same (PiLe.refl _) t) c.2]; exact k g _ (Ext.refl _) hS (.bl _)
    · split at e
      · rename_i c
        cases e
        exact .inr (.inl (.inr ⟨_, _, dp_of (Same.refl _) (r1.h hS) (SeqAt.canLay_of_shaped c.1), dp_of (Same.refl _) (r2.h hS) (SeqAt.canLay_of_shaped c.2), c.1, c.2, k g _ (Ext.refl _) hS (.bl _)⟩))
      · cases e
  · split at e
    · rename_i c
      cases e
      obtain ⟨q, vs, rfl, h1, t⟩ := r2.tup hS
      refine .inr (.inl (.inl ⟨q, vs, rfl, .inr (SqT.of h1), flat_v (r1.h hS) c.1, flat_vA t c.2, ?_⟩))
      show Q (.bl (!inV x vs)) g.H
      rw [inF_v (r1.h hS) (RpA.mono hS.same (PiLe.refl _) t) c.2]; exact k g _ (Ext.refl _) hS (.bl _)
    · cases e
  · rename_i kvs
    generalize e1 : inK _ kvs = ob at e
    cases ob with
    | none => cases e
    | some b =>
      cases e
      exact .inr (.inr (rel_dct hS r1 r2 e1 (k g _ (Ext.refl _) hS (.bl _))))
  · cases e
theorem rm_u65 {k : Nat} {A : Around} (r : L2.Room k A) : A.units + 65 < cLine := by have := r.un; omega
section
variable {m : Bool} {X : Cx} {W : WX} {ca : Ct} {a b e : Expr} {fa fb : En → M D} {pos : Pos} {k : Nat}
theorem de_in (hu : X.A.units + 65 < cLine) (ha : DB m X W ca a fa) (hb : DB m X W ca b fb) (hm : behindInMarks .In b = false := by rfl) : DE m X W ca (.Compare a [.In] [b] pos) (eBin (obl inD) fa fb) := de_cmp (op_in_str.or ((op_in_seq.or (op_inD hu)).or (op_in_dict hu))) rel_in ha hb hm
theorem dt_in (hu : X.A.units + 65 < cLine) (ha : DB m X W ca a fa) (hb : DB m X W ca b fb) (hm : behindInMarks .In b = false := by rfl) : DT m X W ca (.Compare a [.In] [b] pos) (tBin inD fa fb) := dt_cmp (op_in_str.or ((op_in_seq.or (op_inD hu)).or (op_in_dict hu))) rel_in ha hb hm
theorem de_nin (hu : X.A.units + 65 < cLine) (ha : DB m X W ca a fa) (hb : DB m X W ca b fb) (hm : behindInMarks .NotIn b = false := by rfl) : DE m X W ca (.Compare a [.NotIn] [b] pos) (eBin (obl ninD) fa fb) := de_cmp (op_notIn_str.or ((op_notIn_seq.or (op_notInD hu)).or (op_notIn_dict hu))) rel_nin ha hb hm
theorem dt_nin (hu : X.A.units + 65 < cLine) (ha : DB m X W ca a fa) (hb : DB m X W ca b fb) (hm : behindInMarks .NotIn b = false := by rfl) : DT m X W ca (.Compare a [.NotIn] [b] pos) (tBin ninD fa fb) := dt_cmp (op_notIn_str.or ((op_notIn_seq.or (op_notInD hu)).or (op_notIn_dict hu))) rel_nin ha hb hm
end
end Dn

namespace Dn
open PySem L2

section
variable {m : Bool} {X : Cx} {W : WX} {ca : Ct} {a b e : Expr} {fa fb : En → M D} {ta tb : En → M Bool} {pos : Pos} {rest : List Expr}
/-! ### and, or, not -/
def tAndD (a b : En → M Bool) : En → M Bool := fun env => M.bind (a env) fun x => if x = true then b env else M.ret false
def tOrD (a b : En → M Bool) : En → M Bool := fun env => M.bind (a env) fun x => if x = true then M.ret true else b env
def tNotD (a : En → M Bool) : En → M Bool := fun env => M.bind (a env) fun x => M.ret (!x)
theorem dw_and1 (ha : DT m X W ca a ta) : DW m X W ca (.BoolOp .And [a] pos) ta := let ⟨_, p, k⟩ := ha; ⟨_, pw_and1 p, k⟩
theorem dw_or1 (ha : DT m X W ca a ta) : DW m X W ca (.BoolOp .Or [a] pos) ta := let ⟨_, p, k⟩ := ha; ⟨_, pw_or1 p, k⟩
theorem dw_and (ha : DT m X W ca a ta) (hb : DW m X W ca (.BoolOp .And (b :: rest) pos) tb) : DW m X W ca (.BoolOp .And (a :: b :: rest) pos) (tAndD ta tb) := by
  obtain ⟨t1, p1, k1⟩ := ha
  obtain ⟨t2, p2, k2⟩ := hb
  refine ⟨_, pw_and p1 p2, fun H0 g S σ env hS hE Q h => k1 H0 g S σ env hS hE _ (sat_mono (seqT h) (fun x S1 q g1 e1 s1 => ?_) fun _ _ q => q)⟩
  have q := q g1 e1
  cases x with
  | true => exact k2 H0 g1 S1 σ env s1 (hE.ext e1) Q q
  | false => exact (show okT m ca g1 Q false S1 from q) g1 (Ext.refl _) s1
theorem dw_or (ha : DT m X W ca a ta) (hb : DW m X W ca (.BoolOp .Or (b :: rest) pos) tb) : DW m X W ca (.BoolOp .Or (a :: b :: rest) pos) (tOrD ta tb) := by
  obtain ⟨t1, p1, k1⟩ := ha
  obtain ⟨t2, p2, k2⟩ := hb
  refine ⟨_, pw_or p1 p2, fun H0 g S σ env hS hE Q h => k1 H0 g S σ env hS hE _ (sat_mono (seqT h) (fun x S1 q g1 e1 s1 => ?_) fun _ _ q => q)⟩
  have q := q g1 e1
  cases x with
  | false => exact k2 H0 g1 S1 σ env s1 (hE.ext e1) Q q
  | true => exact (show okT m ca g1 Q true S1 from q) g1 (Ext.refl _) s1
theorem DW.t (h : DW m X W ca e ta) : DT m X W ca e ta := let ⟨_, p, k⟩ := h; ⟨_, p.pt, k⟩
theorem dt_not (ha : DT m X W ca a ta) : DT m X W ca (.UnaryOp .Not a pos) (tNotD ta) := by
  obtain ⟨t1, p1, k1⟩ := ha
  refine ⟨_, pt_not p1, fun H0 g S σ env hS hE Q h => k1 H0 g S σ env hS hE _ (sat_mono (seqT h) (fun x S1 q g1 e1 s1 => ?_) fun _ _ q => q)⟩
  exact (show okT m ca g1 Q (!x) S1 from q g1 e1) g1 (Ext.refl _) s1
/-- as values -/
def eAndD (a b : En → M D) : En → M D := fun env => M.bind (a env) fun x => match x with
  | .bl k => if k = true then b env else M.ret (.bl false)
  | _ => M.bad
def eOrD (a b : En → M D) : En → M D := fun env => M.bind (a env) fun x => match x with
  | .bl k => if k = true then M.ret (.bl true) else b env
  | _ => M.bad
def eNotD (a : En → M D) : En → M D := fun env => M.bind (a env) fun x => match x with
  | .bl k => M.ret (.bl (!k))
  | _ => M.bad
theorem de_one {op} (h : DE m X W ca a fa) : DE m X W ca (.BoolOp op [a] pos) fa := let ⟨_, p, k⟩ := h; ⟨_, pe_one p, k⟩
theorem de_and (ha : DE m X W ca a fa) (hb : DE m X W ca (.BoolOp .And (b :: rest) pos) fb) : DE m X W ca (.BoolOp .And (a :: b :: rest) pos) (eAndD fa fb) := by
  obtain ⟨t1, p1, k1⟩ := ha
  obtain ⟨t2, p2, k2⟩ := hb
  refine ⟨_, pe_and p1 p2, fun H0 g S σ env hS hE Q h => k1 H0 g S σ env hS hE _ (sat_mono (seqE h) (fun x S1 q g1 v e1 s1 r1 => ?_) fun _ _ q => q)⟩
  have q := q g1 e1
  cases x with
  | bl k =>
    cases r1
    refine ⟨k, rfl, ?_⟩
    cases k with
    | true => exact k2 H0 g1 S1 σ env s1 (hE.ext e1) Q q
    | false => exact (show okE m ca g1 Q (.bl false) S1 from q) g1 _ (Ext.refl _) s1 (.bl _)
  | _ => exact q.elim
theorem de_or (ha : DE m X W ca a fa) (hb : DE m X W ca (.BoolOp .Or (b :: rest) pos) fb) : DE m X W ca (.BoolOp .Or (a :: b :: rest) pos) (eOrD fa fb) := by
  obtain ⟨t1, p1, k1⟩ := ha
  obtain ⟨t2, p2, k2⟩ := hb
  refine ⟨_, pe_or p1 p2, fun H0 g S σ env hS hE Q h => k1 H0 g S σ env hS hE _ (sat_mono (seqE h) (fun x S1 q g1 v e1 s1 r1 => ?_) fun _ _ q => q)⟩
  have q := q g1 e1
  cases x with
  | bl k =>
    cases r1
    refine ⟨k, rfl, ?_⟩
    cases k with
    | false => exact k2 H0 g1 S1 σ env s1 (hE.ext e1) Q q
    | true => exact (show okE m ca g1 Q (.bl true) S1 from q) g1 _ (Ext.refl _) s1 (.bl _)
  | _ => exact q.elim
theorem de_not (ha : DE m X W ca a fa) : DE m X W ca (.UnaryOp .Not a pos) (eNotD fa) := by
  obtain ⟨t1, p1, k1⟩ := ha
  refine ⟨_, pe_not p1, fun H0 g S σ env hS hE Q h => k1 H0 g S σ env hS hE _ (sat_mono (seqE h) (fun x S1 q g1 v e1 s1 r1 => ?_) fun _ _ q => q)⟩
  have q := q g1 e1
  cases x with
  | bl k =>
    cases r1
    exact ⟨k, rfl, (show okE m ca g1 Q (.bl (!k)) S1 from q) g1 _ (Ext.refl _) s1 (.bl _)⟩
  | _ => exact q.elim
/-- -n -/
def eNegD (a : En → M D) : En → M D := fun env => M.bind (a env) fun x => match x with
  | .int k => M.ret (.int (-k))
  | _ => M.bad
theorem de_neg (ha : DE m X W ca a fa) : DE m X W ca (.UnaryOp .USub a pos) (eNegD fa) := by
  obtain ⟨t1, p1, k1⟩ := ha
  refine ⟨_, pe_un un_neg p1, fun H0 g S σ env hS hE Q h => k1 H0 g S σ env hS hE _ (sat_mono (seqE h) (fun x S1 q g1 v e1 s1 r1 => ?_) fun _ _ q => q)⟩
  have q := q g1 e1
  cases x with
  | int k =>
    cases r1
    exact ⟨k, rfl, (show okE m ca g1 Q (.int (-k)) S1 from q) g1 _ (Ext.refl _) s1 (.int _)⟩
  | _ => exact q.elim
/-- a value as a test -/
def truD : D → Option Bool
  | .non => some false
  | .bl b => some b
  | .int i => some (i != 0)
  | .str y => if y.length ≤ lim then some ((y.length : Int) != 0) else none
  | .lst xs => some (!xs.isEmpty)
  | .tup xs => some (!xs.isEmpty)
  | .dct xs => some (!xs.isEmpty)
  | .scr _ => none
  | .obj _ => none
def tValD (a : En → M D) : En → M Bool := fun env => M.bind (a env) fun x => M.lift (truD x)
theorem emp_of {F : Hp} {p : Pi} {vs : List V} {ds : List D} (r : RpA F p vs ds) : vs.isEmpty = ds.isEmpty := by
  cases r <;> rfl
theorem emp_ofK {F : Hp} {p : Pi} {vs : List (Key × V)} {ds : List (Key × D)} (r : RpK F p vs ds) : vs.isEmpty = ds.isEmpty := by
  cases r <;> rfl
theorem dt_val (ha : DB m X W ca a fa) (he : ∀ whole, isTrue a X.env whole = (do let v ← whole; standAt a.pos; holding [v] (truthy v)) := by intro _; rfl) : DT m X W ca a (tValD fa) := by
  obtain ⟨t1, p1, k1⟩ := ha
  refine ⟨_, pt_truth p1 he, fun H0 g S σ env hS hE Q h => k1 H0 g S σ env hS hE _ (sat_mono (seqT h) (fun x S1 q g1 v e1 s1 r1 => ?_) fun _ _ q => q)⟩
  obtain ⟨k, hk, q⟩ := sat_lift (q g1 e1)
  refine ⟨k, ?_, q g1 (Ext.refl _) s1⟩
  have r := r1.h s1
  cases r with
  | non => cases hk; rfl
  | bl b => cases hk; rfl
  | int b => cases hk; rfl
  | str y =>
    have hk : (if y.length ≤ lim then some ((y.length : Int) != 0) else none) = some k := hk
    split at hk
    · rename_i c; cases hk; exact ⟨lim_lt c, rfl⟩
    · cases hk
  | lst h t => cases hk; exact .inl ⟨_, SqL.of h, by rw [emp_of t]⟩
  | tup h t => cases hk; exact .inr (.inl ⟨_, SqT.of h, by rw [emp_of t]⟩)
  | dct h t => cases hk; exact .inr (.inr ⟨_, h, by rw [emp_ofK t]⟩)
  | scr h => cases hk
  | obj h => cases hk
def eIfD (c : En → M Bool) (a b : En → M D) : En → M D := fun env => M.bind (c env) fun x => if x = true then a env else b env
theorem de_if {c : Expr} {tc : En → M Bool} (hc : DT m X W ca c tc) (ha : DE m X W ca a fa) (hb : DE m X W ca b fb) : DE m X W ca (.IfExp c a b pos) (eIfD tc fa fb) := by
  obtain ⟨t1, p1, k1⟩ := hc
  obtain ⟨t2, p2, k2⟩ := ha
  obtain ⟨t3, p3, k3⟩ := hb
  refine ⟨_, pe_ifExp p1 p2 p3, fun H0 g S σ env hS hE Q h => k1 H0 g S σ env hS hE _ (sat_mono (seqE h) (fun x S1 q g1 e1 s1 => ?_) fun _ _ q => q)⟩
  have q := q g1 e1
  cases x with
  | true => exact k2 H0 g1 S1 σ env s1 (hE.ext e1) Q q
  | false => exact k3 H0 g1 S1 σ env s1 (hE.ext e1) Q q

/-! ### subscripts -/
def ixD : D → D → Option D
  | .lst xs, .int i => atI xs i
  | .tup xs, .int i => atI xs i
  | .scr ns, .int i => (atI ns i).map D.int
  | .str s, .int i => if s.length ≤ lim then (atI s.cps.toList i).map fun c => .str ⟨#[c]⟩ else none
  | _, _ => none
theorem at_of {F : Hp} {p : Pi} {vs : List V} {ds : List D} {d : D} {i : Int} (r : RpA F p vs ds) (h : atI ds i = some d) : ∃ v, atI vs i = some v ∧ Rp F p v d := by
  unfold atI at h ⊢
  rw [r.length]
  cases e : ixN ds.length i with
  | none => rw [e] at h; cases h
  | some j =>
    rw [e] at h
    exact r.get j h
/-- as RelOp, the written part given -/
def RelOpK (K : PySem.W.Frag) (r : R2) (op : D → D → Option D) : Prop := ∀ (m : Bool) (ca : Ct) (g : G) (S : Store) (x y : V) (dx dy z : D) (Q : VK), ca.K = K → SOk ca g S → Rb m g x dx → Rb m g y dy → op dx dy = some z → okE m ca g Q z S → r x y g.H Q
theorem rel_ix {K : PySem.W.Frag} : RelOpK K (rIx K) ixD := fun m ca g S x y dx dy z Q hK hS r1 r2 e k => by
  unfold ixD at e
  split at e
  · obtain ⟨a, vs, rfl, h, t⟩ := r1.lst hS
    cases r2.int
    obtain ⟨v, h1, h2⟩ := at_of t e
    exact .inl ⟨a, vs, _, v, rfl, rfl, SqL.of h, h1, k g v (Ext.refl _) hS h2⟩
  · obtain ⟨a, vs, rfl, h, t⟩ := r1.tup hS
    cases r2.int
    obtain ⟨v, h1, h2⟩ := at_of t e
    exact .inr (.inl ⟨a, vs, _, v, rfl, rfl, SqT.of h, h1, k g v (Ext.refl _) hS h2⟩)
  · rename_i ns i
    cases r2.int
    cases e1 : atI ns i with
    | none => rw [e1] at e; cases e
    | some j =>
      rw [e1] at e; cases e
      have r := r1.h hS
      cases r with
      | scr h =>
        have hq := (hS.sc _ _ h).sq
        rw [hK] at hq
        obtain ⟨v, h1, h2⟩ := at_of (RpA.ints (F := g.F) (p := g.p) ns) (i := i) (d := .int j) (by
          unfold atI at e1 ⊢
          rw [List.length_map]
          cases e3 : ixN ns.length i with
          | none => rw [e3] at e1; cases e1
          | some k => rw [e3] at e1; simpa using e1)
        exact .inl ⟨_, _, _, v, rfl, rfl, hq, h1, k g v (Ext.refl _) hS h2⟩
  · rename_i s i
    cases r2.int
    cases r1.str
    split at e
    · rename_i c
      cases e1 : atI s.cps.toList i with
      | none => rw [e1] at e; cases e
      | some j =>
        rw [e1] at e; cases e
        exact .inr (.inr ⟨_, _, j, rfl, rfl, lim_lt c, e1, k g _ (Ext.refl _) hS (.str _)⟩)
    · cases e
  · cases e
theorem run2K {ta tb : TE} {r : R2} {op : D → D → Option D} (hK : ca.K = X.K) (ho : RelOpK X.K r op)
    (ka : ∀ H0 g S σ env, SOk ca g S → EnvOk H0 g σ env → ∀ Q : VK, (fa env S).sat (okB m ca g Q) (exE m ca W g σ) → ta σ g.H Q)
    (kb : ∀ H0 g S σ env, SOk ca g S → EnvOk H0 g σ env → ∀ Q : VK, (fb env S).sat (okB m ca g Q) (exE m ca W g σ) → tb σ g.H Q) :
    ∀ H0 g S σ env, SOk ca g S → EnvOk H0 g σ env → ∀ Q : VK, (eBin op fa fb env S).sat (okE m ca g Q) (exE m ca W g σ) → tOp r ta tb σ g.H Q := fun H0 g S σ env hS hE Q h => by
  refine ka H0 g S σ env hS hE _ (sat_mono (seqE h) (fun x S1 q g1 v e1 s1 r1 => ?_) fun _ _ q => q)
  refine kb H0 g1 S1 σ env s1 (hE.ext e1) _ (sat_mono (seqE (q g1 e1)) (fun y S2 q2 g2 u e2 s2 r2 => ?_) fun _ _ q => q)
  obtain ⟨z, hz, k⟩ := sat_lift (q2 g2 e2)
  exact ho m ca g2 S2 v u x y z Q hK s2 (r1.ext s2 e2) r2 hz k
theorem de_ix (ha : DB m X W ca a fa) (hb : DB m X W ca b fb) (hK : ca.K = X.K := by rfl) (hs : PlainIx b := by intro _ _; rfl) : DE m X W ca (.Subscript a b pos) (eBin ixD fa fb) := by
  obtain ⟨ta, pa, ka⟩ := ha
  obtain ⟨tb, pb, kb⟩ := hb
  exact ⟨_, pe_ix ix_seq pa pb hs, run2K hK rel_ix ka kb⟩
theorem de_dget (hu : X.A.units + 64 < cLine) (ha : DB m X W ca a fa) (hb : DB m X W ca b fb) (hs : NoSl b := by intro _ _; rfl) : DE m X W ca (.Subscript a b pos) (eBin dgetD fa fb) := by
  obtain ⟨ta, pa, ka⟩ := ha
  obtain ⟨tb, pb, kb⟩ := hb
  refine ⟨_, pe_dget (Nat.lt_of_le_of_lt (Nat.add_le_add_left (by decide : 1 ≤ 64) _) hu) pa pb hs, run2 (r := fun x y H Q => ∃ a v, x = .ref a ∧ DGet H a y (some v) ∧ Q v H) (fun m ca g S x y dx dy z Q hS r1 r2 e k => ?_) ka kb⟩
  cases dx with
  | dct kvs =>
    obtain ⟨a, vs, rfl, h, t⟩ := r1.dct hS
    have e : (keyD dy).bind (getK kvs) = some z := e
    cases e1 : keyD dy with
    | none => rw [e1] at e; cases e
    | some q =>
      rw [e1] at e
      have e : getK kvs q = some z := e
      rcases getK_v t q with ⟨h1, _⟩ | ⟨d, v, h1, h2, h3⟩
      · rw [h1] at e; cases e
      · rw [h1] at e; cases e
        refine ⟨a, v, rfl, ?_, k g v (Ext.refl _) hS h3⟩
        rw [keyD_v (r2.h hS) e1, ← h2]
        exact DGet.k h
  | _ => cases e

/-! ### slices -/
def oPart (o : Option (En → M D)) : En → M (Option Int) := match o with
  | none => fun _ => M.ret none
  | some f => fun env => M.bind (f env) fun x => match x with
    | .int i => M.ret (some i)
    | _ => M.bad
def DP (m : Bool) (X : Cx) (W : WX) (ca : Ct) (e : Option Expr) (f : En → M (Option Int)) : Prop :=
  ∃ t, PO X e t ∧ ∀ H0 g S σ env, SOk ca g S → EnvOk H0 g σ env → ∀ Q : Option Int → Hp → Prop, (f env S).sat (fun o S' => ∀ g', Ext m g g' → SOk ca g' S' → Q o g'.H) (exE m ca W g σ) → t σ g.H Q
theorem dp_none : DP m X W ca none (oPart none) := ⟨_, po_none, fun H0 g S σ env hS hE Q h => h g (Ext.refl _) hS⟩
theorem dp_some (ha : DE m X W ca a fa) : DP m X W ca (some a) (oPart (some fa)) := by
  obtain ⟨t, p, k⟩ := ha
  refine ⟨_, po_some p, fun H0 g S σ env hS hE Q h => k H0 g S σ env hS hE _ (sat_mono (sat_bind h) (fun x S1 q g1 v e1 s1 r1 => ?_) fun _ _ q => q)⟩
  cases x with
  | int i =>
    cases r1
    exact ⟨i, rfl, (show ∀ g', Ext m g g' → SOk ca g' S1 → Q (some i) g'.H from q) g1 e1 s1⟩
  | _ => exact q.elim
def cutD (xs : List D) (lo hi : Option Int) : List D := (xs.drop (HT.sIx xs.length 0 lo)).take (HT.sIx xs.length xs.length hi - HT.sIx xs.length 0 lo)
def cutI (xs : List Int) (lo hi : Option Int) : List Int := (xs.drop (HT.sIx xs.length 0 lo)).take (HT.sIx xs.length xs.length hi - HT.sIx xs.length 0 lo)
theorem cut_rp {F : Hp} {p : Pi} {vs : List V} {ds : List D} (r : RpA F p vs ds) (lo hi : Option Int) : RpA F p (cutV vs lo hi) (cutD ds lo hi) := by
  unfold cutV cutD
  rw [r.length]
  exact RpA.take _ (RpA.drop _ r)
/-- xs[lo:hi], a new list -/
def oSl (a : En → M D) (lo hi : En → M (Option Int)) : En → M (List D) := fun env => M.bind (a env) fun x => M.bind (lo env) fun l => M.bind (hi env) fun u => match x with
  | .lst xs => M.ret (cutD xs l u)
  | .scr ns => M.ret ((cutI ns l u).map D.int)
  | _ => M.bad
/-- s[lo:hi], a text -/
def eSl (a : En → M D) (lo hi : En → M (Option Int)) : En → M D := fun env => M.bind (a env) fun x => M.bind (lo env) fun l => M.bind (hi env) fun u => match x with
  | .str s => if s.length ≤ lim then M.ret (.str (cutS s l u)) else M.bad
  | _ => M.bad
theorem do_sl {lo hi : Option Expr} {fl fh : En → M (Option Int)} {p2 : Pos} (ha : DB m X W ca a fa) (hl : DP m X W ca lo fl) (hh : DP m X W ca hi fh) (hK : ca.K = X.K := by rfl) : DO m X W ca (.Subscript a (.Slice lo hi none p2) pos) (oSl fa fl fh) := by
  obtain ⟨t1, p1, k1⟩ := ha
  obtain ⟨t2, q2, k2⟩ := hl
  obtain ⟨t3, p3, k3⟩ := hh
  refine ⟨_, pe_slice sl_list p1 q2 p3, fun H0 g S σ env hS hE Q h => ?_⟩
  refine k1 H0 g S σ env hS hE _ (sat_mono (seqO h) (fun x S1 q g1 v e1 s1 r1 => ?_) fun _ _ q => q)
  refine k2 H0 g1 S1 σ env s1 (hE.ext e1) _ (sat_mono (seqO (q g1 e1)) (fun l S2 q g2 e2 s2 => ?_) fun _ _ q => q)
  refine k3 H0 g2 S2 σ env s2 (hE.ext (e1.trans e2)) _ (sat_mono (seqO (q g2 e2)) (fun u S3 q g3 e3 s3 => ?_) fun _ _ q => q)
  have q := q g3 e3
  have r1 := r1.ext s3 (e2.trans e3)
  cases x with
  | lst xs =>
    obtain ⟨a, vs, rfl, h, t⟩ := r1.lst s3
    refine ⟨a, vs, rfl, SqL.of h, fun z hz => ?_⟩
    exact (show okO m ca g3 Q (cutD xs l u) S3 from q) (g3.nw z _) z _ (ext_nw s3 hz _) (sok_nw s3 hz _) hz upd_same (s3.free hz) (s3.nop hz) (cut_rp t l u)
  | scr ns =>
    have r := r1.h s3
    cases r with
    | scr h =>
      have hq := (s3.sc _ _ h).sq
      rw [hK] at hq
      refine ⟨_, _, rfl, hq, fun z hz => ?_⟩
      have e9 : cutD (ns.map D.int) l u = (cutI ns l u).map D.int := by unfold cutD cutI; simp [List.map_take, List.map_drop]
      refine (show okO m ca g3 Q ((cutI ns l u).map D.int) S3 from q) (g3.nw z _) z _ (ext_nw s3 hz _) (sok_nw s3 hz _) hz upd_same (s3.free hz) (s3.nop hz) ?_
      rw [← e9]
      exact cut_rp (RpA.ints ns) l u
  | _ => exact q.elim
theorem de_sl {lo hi : Option Expr} {fl fh : En → M (Option Int)} {p2 : Pos} (ha : DB m X W ca a fa) (hl : DP m X W ca lo fl) (hh : DP m X W ca hi fh) : DE m X W ca (.Subscript a (.Slice lo hi none p2) pos) (eSl fa fl fh) := by
  obtain ⟨t1, p1, k1⟩ := ha
  obtain ⟨t2, q2, k2⟩ := hl
  obtain ⟨t3, p3, k3⟩ := hh
  refine ⟨_, pe_slice sl_str p1 q2 p3, fun H0 g S σ env hS hE Q h => ?_⟩
  refine k1 H0 g S σ env hS hE _ (sat_mono (seqE h) (fun x S1 q g1 v e1 s1 r1 => ?_) fun _ _ q => q)
  refine k2 H0 g1 S1 σ env s1 (hE.ext e1) _ (sat_mono (seqE (q g1 e1)) (fun l S2 q g2 e2 s2 => ?_) fun _ _ q => q)
  refine k3 H0 g2 S2 σ env s2 (hE.ext (e1.trans e2)) _ (sat_mono (seqE (q g2 e2)) (fun u S3 q g3 e3 s3 => ?_) fun _ _ q => q)
  have q := q g3 e3
  have r1 := r1.ext s3 (e2.trans e3)
  cases x with
  | str xs =>
    cases r1.str
    dsimp only at q
    by_cases c : xs.length ≤ lim
    · rw [if_pos c] at q
      exact ⟨xs, rfl, lim_lt c, (show okE m ca g3 Q (.str (cutS xs l u)) S3 from q) g3 _ (Ext.refl _) s3 (.str _)⟩
    · rw [if_neg c] at q; exact q.elim
  | _ => exact q.elim
end
end Dn

namespace Dn
open PySem L2

/-! ### arguments that are read for now -/
inductive RbA (m : Bool) (g : G) : List V → List D → Prop where
  | nil : RbA m g [] []
  | cons {v : V} {d : D} {vs : List V} {ds : List D} : Rb m g v d → RbA m g vs ds → RbA m g (v :: vs) (d :: ds)
theorem RbA.ext {m : Bool} {ca : Ct} {S : Store} {g g' : G} (hS : SOk ca g' S) (e : Ext m g g') : ∀ {vs : List V} {ds : List D}, RbA m g vs ds → RbA m g' vs ds
  | _, _, .nil => .nil
  | _, _, .cons h t => .cons (h.ext hS e) (RbA.ext hS e t)
def okBA (m : Bool) (ca : Ct) (g : G) (Q : List V → Hp → Prop) : List D → Store → Prop := fun ds S' => ∀ g' vs, Ext m g g' → SOk ca g' S' → RbA m g' vs ds → Q vs g'.H
def DAB (m : Bool) (X : Cx) (W : WX) (ca : Ct) (es : List Expr) (f : En → M (List D)) : Prop :=
  ∃ t, PA X es t ∧ ∀ H0 g S σ env, SOk ca g S → EnvOk H0 g σ env → ∀ Q : List V → Hp → Prop, (f env S).sat (okBA m ca g Q) (exE m ca W g σ) → t σ g.H Q
section
variable {m : Bool} {X : Cx} {W : WX} {ca : Ct} {a b e : Expr} {fa fb : En → M D} {es : List Expr} {fs : En → M (List D)} {pos : Pos}
theorem seqBA {α : Type} {c : M α} {k : α → M (List D)} {S : Store} {g : G} {σ : L2.St} {Q : List V → Hp → Prop} (h : (M.bind c k S).sat (okBA m ca g Q) (exE m ca W g σ)) :
    (c S).sat (fun a S' => ∀ g', Ext m g g' → (k a S').sat (okBA m ca g' Q) (exE m ca W g' σ)) (exE m ca W g σ) :=
  sat_mono (sat_bind h) (fun a S' h g' e => sat_mono h (fun d S2 q g2 v e2 s r => q g2 v (e.trans e2) s r) fun c S2 q => q.mono e) fun _ _ q => q
theorem dab_nil : DAB m X W ca [] aNil := ⟨_, pa_nil, fun H0 g S σ env hS hE Q h => h g [] (Ext.refl g) hS .nil⟩
theorem dab_cons (h1 : DB m X W ca e fa) (h2 : DAB m X W ca es fs) (hs : starEach (e :: es) X.env = (false, eval e X.env) :: starEach es X.env := by rfl) : DAB m X W ca (e :: es) (aCons fa fs) := by
  obtain ⟨t, p, k⟩ := h1
  obtain ⟨t2, p2, k2⟩ := h2
  refine ⟨_, pa_cons p p2 hs, fun H0 g S σ env hS hE Q h => ?_⟩
  refine k H0 g S σ env hS hE _ (sat_mono (seqBA h) (fun d S1 q g1 v e1 s1 r1 => ?_) fun _ _ q => q)
  refine k2 H0 g1 S1 σ env s1 (hE.ext e1) _ (sat_mono (seqBA (q g1 e1)) (fun ds S2 q2 g2 vs e2 s2 r2 => ?_) fun _ _ q => q)
  exact (show okBA m ca g2 Q (d :: ds) S2 from q2 g2 e2) g2 _ (Ext.refl g2) s2 (.cons (r1.ext s2 e2) r2)

/-! ### built-in functions -/
def RelC (K : PySem.W.Frag) (r : List V → Hp → VK → Prop) (op : List D → Option D) : Prop := ∀ (m : Bool) (ca : Ct) (g : G) (S : Store) (vs : List V) (ds : List D) (z : D) (Q : VK), ca.K = K → SOk ca g S → RbA m g vs ds → op ds = some z → okE m ca g Q z S → r vs g.H Q
def eCall (op : List D → Option D) (fs : En → M (List D)) : En → M D := fun env => M.bind (fs env) fun ds => M.lift (op ds)
theorem runC {r : List V → Hp → VK → Prop} {op : List D → Option D} {t : TA} (hK : ca.K = X.K) (ho : RelC X.K r op)
    (k : ∀ H0 g S σ env, SOk ca g S → EnvOk H0 g σ env → ∀ Q : List V → Hp → Prop, (fs env S).sat (okBA m ca g Q) (exE m ca W g σ) → t σ g.H Q) :
    ∀ H0 g S σ env, SOk ca g S → EnvOk H0 g σ env → ∀ Q : VK, (eCall op fs env S).sat (okE m ca g Q) (exE m ca W g σ) → tCB r t σ g.H Q := fun H0 g S σ env hS hE Q h => by
  refine k H0 g S σ env hS hE _ (sat_mono (seqE h) (fun ds S1 q g1 vs e1 s1 r1 => ?_) fun _ _ q => q)
  obtain ⟨z, hz, k⟩ := sat_lift (q g1 e1)
  exact ho m ca g1 S1 vs ds z Q hK s1 r1 hz k
theorem de_fnB {x : Str} {id : String} {r : List V → Hp → VK → Prop} {op : List D → Option D} {p : Pos} (hc : CallR X (.builtin id) r) (hK : ca.K = X.K) (ho : RelC X.K r op) (hg : Gl X x) (hm : X.mg x = none) (hv : bootBuiltins x = some (.builtin id)) (ha : DAB m X W ca (e :: es) fs)
    (hn : x ≠ "__name__" := by decide) (hdb : (x == ("__debug__" : Str)) = false := by decide) (he : starEach (e :: es) X.env = (false, eval e X.env) :: starEach es X.env := by rfl) (hpl : (backTo pos (starEach es X.env)).any (·.1) = false := by rfl) :
    DE m X W ca (.Call (.Name x p) (e :: es) [] pos) (eCall op fs) := by
  obtain ⟨t, p, k⟩ := ha
  exact ⟨_, pe_callB hc hg hm hv p hn hdb he hpl, runC hK ho k⟩
theorem de_fnT {x : Str} {T : String} {r : List V → Hp → VK → Prop} {op : List D → Option D} {p : Pos} (hc : CallR X (.type T) r) (hK : ca.K = X.K) (ho : RelC X.K r op) (hg : Gl X x) (hm : X.mg x = none) (hv : bootBuiltins x = some (.type T)) (ha : DAB m X W ca (e :: es) fs)
    (hn : x ≠ "__name__" := by decide) (hdb : (x == ("__debug__" : Str)) = false := by decide) (he : starEach (e :: es) X.env = (false, eval e X.env) :: starEach es X.env := by rfl) (hpl : (backTo pos (starEach es X.env)).any (·.1) = false := by rfl) :
    DE m X W ca (.Call (.Name x p) (e :: es) [] pos) (eCall op fs) := by
  obtain ⟨t, p, k⟩ := ha
  exact ⟨_, pe_callTy hc hg hm hv p hn hdb he hpl, runC hK ho k⟩
theorem rba1 {g : G} {vs : List V} {d : D} (r : RbA m g vs [d]) : ∃ v, vs = [v] ∧ Rb m g v d := by
  cases r with
  | cons h t => cases t; exact ⟨_, rfl, h⟩
theorem rba2 {g : G} {vs : List V} {d d' : D} (r : RbA m g vs [d, d']) : ∃ v v', vs = [v, v'] ∧ Rb m g v d ∧ Rb m g v' d' := by
  cases r with
  | cons h t => obtain ⟨w, rfl, h2⟩ := rba1 t; exact ⟨_, _, rfl, h, h2⟩
/-- len -/
def lenO : List D → Option D
  | [.str s] => if s.length ≤ lim then some (.int s.length) else none
  | [.lst xs] => some (.int xs.length)
  | [.tup xs] => some (.int xs.length)
  | [.scr xs] => some (.int xs.length)
  | [.dct xs] => some (.int xs.length)
  | _ => none
def rLen (K : PySem.W.Frag) : List V → Hp → VK → Prop := fun xs H Q => (∃ x n, xs = [x] ∧ LenV K x H n ∧ Q (.int n) H) ∨ ∃ a kvs, xs = [.ref a] ∧ Rd H a (.dK kvs) ∧ Q (.int kvs.length) H
theorem call_len2 {X : Cx} : CallR X (.builtin "len") (rLen X.K) := by
  intro pins s σ H xs us Q I r h
  rcases h with h | ⟨a, kvs, rfl, hd, q⟩
  · exact call_len pins s σ H xs us Q I r h
  · obtain ⟨u, rfl, rx⟩ := vals1 r
    cases rx
    exact d_len I hd fun t s' I' => ⟨.int kvs.length, H, I', ⟨_, rfl⟩, q⟩
theorem rpK_length : ∀ {F : Hp} {p : Pi} {vs : List (Key × V)} {xs : List (Key × D)}, RpK F p vs xs → vs.length = xs.length
  | _, _, _, _, .nil => rfl
  | _, _, _, _, .cons _ t => by simp [rpK_length t]
theorem rel_len {K : PySem.W.Frag} : RelC K (rLen K) lenO := fun m ca g S vs ds z Q hK hS r e k => by
  unfold lenO at e
  split at e
  · split at e
    · rename_i c; cases e
      obtain ⟨v, rfl, h⟩ := rba1 r
      cases h.str
      exact .inl ⟨_, _, rfl, ⟨lim_lt c, rfl⟩, k g _ (Ext.refl _) hS (.int _)⟩
    · cases e
  · cases e
    obtain ⟨v, rfl, h⟩ := rba1 r
    obtain ⟨a, vs, rfl, h1, h2⟩ := h.lst hS
    exact .inl ⟨_, _, rfl, .inl ⟨vs, SqL.of h1, h2.length.symm⟩, k g _ (Ext.refl _) hS (.int _)⟩
  · cases e
    obtain ⟨v, rfl, h⟩ := rba1 r
    obtain ⟨a, vs, rfl, h1, h2⟩ := h.tup hS
    exact .inl ⟨_, _, rfl, .inr ⟨vs, SqT.of h1, h2.length.symm⟩, k g _ (Ext.refl _) hS (.int _)⟩
  · cases e
    obtain ⟨v, rfl, h⟩ := rba1 r
    have h := h.h hS
    cases h with
    | scr h =>
      have hq := (hS.sc _ _ h).sq
      rw [hK] at hq
      exact .inl ⟨_, _, rfl, .inl ⟨_, hq, by simp⟩, k g _ (Ext.refl _) hS (.int _)⟩
  · cases e
    obtain ⟨v, rfl, h⟩ := rba1 r
    obtain ⟨a, vs, rfl, h1, h2⟩ := h.dct hS
    exact .inr ⟨_, vs, rfl, .inl h1, by rw [rpK_length h2]; exact k g _ (Ext.refl _) hS (.int _)⟩
  · cases e
theorem de_len {p : Pos} (ha : DB m X W ca a fa) (hK : ca.K = X.K := by rfl) (hg : Gl X "len" := by rfl) (hm : X.mg "len" = none := by assumption) (hs : starEach [a] X.env = (false, eval a X.env) :: starEach [] X.env := by rfl) : DE m X W ca (.Call (.Name "len" p) [a] [] pos) (eCall lenO (aCons fa aNil)) :=
  de_fnB call_len2 hK rel_len hg hm PySem.boot_len (dab_cons ha dab_nil hs) (he := hs)
def maxO : List D → Option D
  | [.int i, .int j] => some (.int (if j > i then j else i))
  | _ => none
def minO : List D → Option D
  | [.int i, .int j] => some (.int (if j < i then j else i))
  | _ => none
theorem rel_max {K : PySem.W.Frag} : RelC K (fun xs H Q => ∃ i j, xs = [.int i, .int j] ∧ Q (.int (if j > i then j else i)) H) maxO := fun m ca g S vs ds z Q _ hS r e k => by
  unfold maxO at e
  split at e
  · cases e
    obtain ⟨v, v', rfl, h, h'⟩ := rba2 r
    cases h.int; cases h'.int
    exact ⟨_, _, rfl, k g _ (Ext.refl _) hS (.int _)⟩
  · cases e
theorem rel_min {K : PySem.W.Frag} : RelC K (fun xs H Q => ∃ i j, xs = [.int i, .int j] ∧ Q (.int (if j < i then j else i)) H) minO := fun m ca g S vs ds z Q _ hS r e k => by
  unfold minO at e
  split at e
  · cases e
    obtain ⟨v, v', rfl, h, h'⟩ := rba2 r
    cases h.int; cases h'.int
    exact ⟨_, _, rfl, k g _ (Ext.refl _) hS (.int _)⟩
  · cases e
theorem de_max2 {p : Pos} (hc : X.calm = true) (ha : DB m X W ca a fa) (hb : DB m X W ca b fb) (hK : ca.K = X.K := by rfl) (hg : Gl X "max" := by rfl) (hm : X.mg "max" = none := by assumption) (hs : starEach [a, b] X.env = (false, eval a X.env) :: starEach [b] X.env := by rfl) (hs2 : starEach [b] X.env = (false, eval b X.env) :: starEach [] X.env := by rfl) (hpl : (backTo pos (starEach [b] X.env)).any (·.1) = false := by rfl) :
    DE m X W ca (.Call (.Name "max" p) [a, b] [] pos) (eCall maxO (aCons fa (aCons fb aNil))) :=
  de_fnB (call_max2 hc) hK rel_max hg hm (by decide +kernel) (dab_cons ha (dab_cons hb dab_nil hs2) hs) (he := hs) (hpl := hpl)
theorem de_min2 {p : Pos} (hc : X.calm = true) (ha : DB m X W ca a fa) (hb : DB m X W ca b fb) (hK : ca.K = X.K := by rfl) (hg : Gl X "min" := by rfl) (hm : X.mg "min" = none := by assumption) (hs : starEach [a, b] X.env = (false, eval a X.env) :: starEach [b] X.env := by rfl) (hs2 : starEach [b] X.env = (false, eval b X.env) :: starEach [] X.env := by rfl) (hpl : (backTo pos (starEach [b] X.env)).any (·.1) = false := by rfl) :
    DE m X W ca (.Call (.Name "min" p) [a, b] [] pos) (eCall minO (aCons fa (aCons fb aNil))) :=
  de_fnB (call_min2 hc) hK rel_min hg hm (by decide +kernel) (dab_cons ha (dab_cons hb dab_nil hs2) hs) (he := hs) (hpl := hpl)
/-- int(flag), int(n), int(text) -/
def intO : List D → Option D
  | [.int i] => some (.int i)
  | [.bl k] => some (.int (if k then 1 else 0))
  | [.str s] => if s.length ≤ 640 then (PySem.intText? s).map D.int else none
  | _ => none
theorem rel_int {K : PySem.W.Frag} : RelC K (fun xs H Q => ((∃ i, xs = [.int i] ∧ Q (.int i) H) ∨ ∃ k, xs = [.bl k] ∧ Q (.int (if k then 1 else 0)) H) ∨ ∃ a n, xs = [.str a] ∧ PySem.intText? a = some n ∧ a.length ≤ 640 ∧ Q (.int n) H) intO := fun m ca g S vs ds z Q _ hS r e k => by
  unfold intO at e
  split at e
  · cases e
    obtain ⟨v, rfl, h⟩ := rba1 r
    cases h.int
    exact .inl (.inl ⟨_, rfl, k g _ (Ext.refl _) hS (.int _)⟩)
  · cases e
    obtain ⟨v, rfl, h⟩ := rba1 r
    cases h.bl
    exact .inl (.inr ⟨_, rfl, k g _ (Ext.refl _) hS (.int _)⟩)
  · rename_i s
    split at e
    · rename_i c
      cases e1 : PySem.intText? s with
      | none => rw [e1] at e; cases e
      | some n =>
        rw [e1] at e; cases e
        obtain ⟨v, rfl, h⟩ := rba1 r
        cases h.str
        exact .inr ⟨_, _, rfl, e1, c, k g _ (Ext.refl _) hS (.int _)⟩
    · cases e
  · cases e
theorem de_intF {p : Pos} (ha : DB m X W ca a fa) (hK : ca.K = X.K := by rfl) (hg : Gl X "int" := by rfl) (hm : X.mg "int" = none := by assumption) (hs : starEach [a] X.env = (false, eval a X.env) :: starEach [] X.env := by rfl) : DE m X W ca (.Call (.Name "int" p) [a] [] pos) (eCall intO (aCons fa aNil)) :=
  de_fnT (call_int1.or call_int_str) hK rel_int hg hm (by decide +kernel) (dab_cons ha dab_nil hs) (he := hs)
def strO : List D → Option D
  | [.int i] => if i.natAbs.log2 < 1920 then some (.str (toString i)) else none
  | _ => none
/-- str(text) is the text -/
theorem rel_str {K : PySem.W.Frag} : RelC K (fun xs H Q => ∃ i, xs = [.int i] ∧ i.natAbs.log2 < 1920 ∧ Q (.str (toString i)) H) strO := fun m ca g S vs ds z Q _ hS r e k => by
  unfold strO at e
  split at e
  · split at e
    · rename_i c; cases e
      obtain ⟨v, rfl, h⟩ := rba1 r
      cases h.int
      exact ⟨_, rfl, c, k g _ (Ext.refl _) hS (.str _)⟩
    · cases e
  · cases e
theorem de_strI {p : Pos} (ha : DB m X W ca a fa) (hK : ca.K = X.K := by rfl) (hg : Gl X "str" := by rfl) (hm : X.mg "str" = none := by assumption) (hs : starEach [a] X.env = (false, eval a X.env) :: starEach [] X.env := by rfl) : DE m X W ca (.Call (.Name "str" p) [a] [] pos) (eCall strO (aCons fa aNil)) :=
  de_fnT call_str_int hK rel_str hg hm (by decide +kernel) (dab_cons ha dab_nil hs) (he := hs)
def ordO : List D → Option D
  | [.str s] => if s.length = 1 then some (.int (s.cps.getD 0 0 : Nat)) else none
  | _ => none
theorem rel_ord {K : PySem.W.Frag} : RelC K (fun xs H Q => ∃ x, xs = [.str x] ∧ x.length = 1 ∧ Q (.int (x.cps.getD 0 0 : Nat)) H) ordO := fun m ca g S vs ds z Q _ hS r e k => by
  unfold ordO at e
  split at e
  · split at e
    · rename_i c; cases e
      obtain ⟨v, rfl, h⟩ := rba1 r
      cases h.str
      exact ⟨_, rfl, c, k g _ (Ext.refl _) hS (.int _)⟩
    · cases e
  · cases e
theorem de_ord {p : Pos} (ha : DB m X W ca a fa) (hK : ca.K = X.K := by rfl) (hg : Gl X "ord" := by rfl) (hm : X.mg "ord" = none := by assumption) (hs : starEach [a] X.env = (false, eval a X.env) :: starEach [] X.env := by rfl) : DE m X W ca (.Call (.Name "ord" p) [a] [] pos) (eCall ordO (aCons fa aNil)) :=
  de_fnB call_ord hK rel_ord hg hm (by decide +kernel) (dab_cons ha dab_nil hs) (he := hs)
/-- lists of bools, of ints -/
def blsD : List D → Option (List Bool)
  | [] => some []
  | .bl b :: r => (blsD r).map (b :: ·)
  | _ => none
def intsD : List D → Option (List Int)
  | [] => some []
  | .int b :: r => (intsD r).map (b :: ·)
  | _ => none
def strsD : List D → Option (List Str)
  | [] => some []
  | .str b :: r => (strsD r).map (b :: ·)
  | _ => none
theorem bls_v {F : Hp} {p : Pi} : ∀ {ds : List D} {vs : List V} {bs : List Bool}, RpA F p vs ds → blsD ds = some bs → vs = bs.map V.bl
  | [], _, _, r, e => by cases r; cases e; rfl
  | d :: ds, _, bs, r, e => by
    cases r with
    | cons h t =>
      cases d with
      | bl b =>
        cases h
        cases e1 : blsD ds with
        | none => simp [blsD, e1] at e
        | some cs =>
          have e : some (b :: cs) = some bs := by simpa [blsD, e1] using e
          cases e
          rw [bls_v t e1]; rfl
      | _ => cases e
theorem ints_v {F : Hp} {p : Pi} : ∀ {ds : List D} {vs : List V} {bs : List Int}, RpA F p vs ds → intsD ds = some bs → vs = bs.map V.int
  | [], _, _, r, e => by cases r; cases e; rfl
  | d :: ds, _, bs, r, e => by
    cases r with
    | cons h t =>
      cases d with
      | int b =>
        cases h
        cases e1 : intsD ds with
        | none => simp [intsD, e1] at e
        | some cs =>
          have e : some (b :: cs) = some bs := by simpa [intsD, e1] using e
          cases e
          rw [ints_v t e1]; rfl
      | _ => cases e
theorem strs_v {F : Hp} {p : Pi} : ∀ {ds : List D} {vs : List V} {bs : List Str}, RpA F p vs ds → strsD ds = some bs → vs = bs.map V.str
  | [], _, _, r, e => by cases r; cases e; rfl
  | d :: ds, _, bs, r, e => by
    cases r with
    | cons h t =>
      cases d with
      | str b =>
        cases h
        cases e1 : strsD ds with
        | none => simp [strsD, e1] at e
        | some cs =>
          have e : some (b :: cs) = some bs := by simpa [strsD, e1] using e
          cases e
          rw [strs_v t e1]; rfl
      | _ => cases e
def allO : List D → Option D
  | [.lst xs] => (blsD xs).map fun bs => .bl (bs.all id)
  | _ => none
theorem rel_all {K : PySem.W.Frag} : RelC K (rAll K) allO := fun m ca g S vs ds z Q _ hS r e k => by
  unfold allO at e
  split at e
  · rename_i xs
    cases e1 : blsD xs with
    | none => rw [e1] at e; cases e
    | some bs =>
      rw [e1] at e; cases e
      obtain ⟨v, rfl, h⟩ := rba1 r
      obtain ⟨a, vs, rfl, h1, h2⟩ := h.lst hS
      cases bls_v h2 e1
      exact ⟨a, bs, rfl, SqL.of h1, k g _ (Ext.refl _) hS (.bl _)⟩
  · cases e
theorem de_all {p : Pos} (hc : X.calm = true) (ha : DB m X W ca a fa) (hK : ca.K = X.K := by rfl) (hg : Gl X "all" := by rfl) (hm : X.mg "all" = none := by assumption) (hs : starEach [a] X.env = (false, eval a X.env) :: starEach [] X.env := by rfl) : DE m X W ca (.Call (.Name "all" p) [a] [] pos) (eCall allO (aCons fa aNil)) :=
  de_fnB (cr_all hc) hK rel_all hg hm (by decide +kernel) (dab_cons ha dab_nil hs) (he := hs)
def sumO : List D → Option D
  | [.lst xs] => (intsD xs).map fun bs => .int bs.sum
  | _ => none
theorem rel_sum {K : PySem.W.Frag} : RelC K (rSum K) sumO := fun m ca g S vs ds z Q _ hS r e k => by
  unfold sumO at e
  split at e
  · rename_i xs
    cases e1 : intsD xs with
    | none => rw [e1] at e; cases e
    | some bs =>
      rw [e1] at e; cases e
      obtain ⟨v, rfl, h⟩ := rba1 r
      obtain ⟨a, vs, rfl, h1, h2⟩ := h.lst hS
      cases ints_v h2 e1
      exact ⟨a, bs, rfl, SqL.of h1, k g _ (Ext.refl _) hS (.int _)⟩
  · cases e
theorem de_sum {p : Pos} (hc : X.calm = true) (ha : DB m X W ca a fa) (hK : ca.K = X.K := by rfl) (hg : Gl X "sum" := by rfl) (hm : X.mg "sum" = none := by assumption) (hs : starEach [a] X.env = (false, eval a X.env) :: starEach [] X.env := by rfl) : DE m X W ca (.Call (.Name "sum" p) [a] [] pos) (eCall sumO (aCons fa aNil)) :=
  de_fnB (cr_sum hc) hK rel_sum hg hm (by decide +kernel) (dab_cons ha dab_nil hs) (he := hs)
def greatest : List Int → Option Int
  | [] => none
  | x :: xs => match greatest xs with
    | none => some x
    | some y => some (if x < y then y else x)
def least : List Int → Option Int
  | [] => none
  | x :: xs => match least xs with
    | none => some x
    | some y => some (if y < x then y else x)
theorem greatest_is : ∀ {ns : List Int} {z m : Int}, greatest ns = some z → m ∈ ns → (∀ y ∈ ns, y ≤ m) → z = m
  | x :: xs, z, m, e, hm, hle => by
    unfold greatest at e
    cases e1 : greatest xs with
    | none =>
      rw [e1] at e; cases e
      have : xs = [] := by
        cases xs with
        | nil => rfl
        | cons a r => simp only [greatest] at e1; split at e1 <;> cases e1
      subst this
      exact (List.mem_singleton.mp hm).symm
    | some y =>
      rw [e1] at e; cases e
      have hx := hle x List.mem_cons_self
      rcases List.mem_cons.mp hm with rfl | hm'
      · have hy : y ≤ m := by
          clear hx
          have : ∀ {ns : List Int} {z : Int}, greatest ns = some z → z ∈ ns := by
            intro ns
            induction ns with
            | nil => intro z e; cases e
            | cons a r ih =>
              intro z e
              unfold greatest at e
              cases e2 : greatest r with
              | none => rw [e2] at e; cases e; exact List.mem_cons_self
              | some w =>
                rw [e2] at e; cases e
                split
                · exact List.mem_cons_of_mem _ (ih e2)
                · exact List.mem_cons_self
          exact hle y (List.mem_cons_of_mem _ (this e1))
        rw [if_neg (by omega)]
      · have hy := greatest_is e1 hm' fun w hw => hle w (List.mem_cons_of_mem _ hw)
        subst hy
        split <;> omega
theorem least_is : ∀ {ns : List Int} {z m : Int}, least ns = some z → m ∈ ns → (∀ y ∈ ns, m ≤ y) → z = m
  | x :: xs, z, m, e, hm, hle => by
    unfold least at e
    cases e1 : least xs with
    | none =>
      rw [e1] at e; cases e
      have : xs = [] := by
        cases xs with
        | nil => rfl
        | cons a r => simp only [least] at e1; split at e1 <;> cases e1
      subst this
      exact (List.mem_singleton.mp hm).symm
    | some y =>
      rw [e1] at e; cases e
      have hx := hle x List.mem_cons_self
      rcases List.mem_cons.mp hm with rfl | hm'
      · have hy : m ≤ y := by
          clear hx
          have : ∀ {ns : List Int} {z : Int}, least ns = some z → z ∈ ns := by
            intro ns
            induction ns with
            | nil => intro z e; cases e
            | cons a r ih =>
              intro z e
              unfold least at e
              cases e2 : least r with
              | none => rw [e2] at e; cases e; exact List.mem_cons_self
              | some w =>
                rw [e2] at e; cases e
                split
                · exact List.mem_cons_of_mem _ (ih e2)
                · exact List.mem_cons_self
          exact hle y (List.mem_cons_of_mem _ (this e1))
        rw [if_neg (by omega)]
      · have hy := least_is e1 hm' fun w hw => hle w (List.mem_cons_of_mem _ hw)
        subst hy
        split <;> omega
theorem greatest_pos {ns : List Int} {z : Int} (e : greatest ns = some z) : 0 < ns.length := by
  cases ns with
  | nil => cases e
  | cons _ _ => simp
theorem least_pos {ns : List Int} {z : Int} (e : least ns = some z) : 0 < ns.length := by
  cases ns with
  | nil => cases e
  | cons _ _ => simp
def maxL : List D → Option D
  | [.lst xs] => ((intsD xs).bind greatest).map D.int
  | _ => none
def minL : List D → Option D
  | [.lst xs] => ((intsD xs).bind least).map D.int
  | _ => none
theorem rel_maxL {K : PySem.W.Frag} : RelC K (rMax K) maxL := fun m ca g S vs ds z Q _ hS r e k => by
  unfold maxL at e
  split at e
  · rename_i xs
    cases e1 : intsD xs with
    | none => rw [e1] at e; cases e
    | some bs =>
      rw [e1] at e
      cases e2 : greatest bs with
      | none => rw [Option.bind_some, e2] at e; cases e
      | some y =>
        rw [Option.bind_some, e2] at e; cases e
        obtain ⟨v, rfl, h⟩ := rba1 r
        obtain ⟨a, vs, rfl, h1, h2⟩ := h.lst hS
        cases ints_v h2 e1
        refine ⟨a, bs, rfl, SqL.of h1, greatest_pos e2, fun w hw hle => ?_⟩
        cases greatest_is e2 hw hle
        exact k g _ (Ext.refl _) hS (.int _)
  · cases e
theorem rel_minL {K : PySem.W.Frag} : RelC K (rMin K) minL := fun m ca g S vs ds z Q _ hS r e k => by
  unfold minL at e
  split at e
  · rename_i xs
    cases e1 : intsD xs with
    | none => rw [e1] at e; cases e
    | some bs =>
      rw [e1] at e
      cases e2 : least bs with
      | none => rw [Option.bind_some, e2] at e; cases e
      | some y =>
        rw [Option.bind_some, e2] at e; cases e
        obtain ⟨v, rfl, h⟩ := rba1 r
        obtain ⟨a, vs, rfl, h1, h2⟩ := h.lst hS
        cases ints_v h2 e1
        refine ⟨a, bs, rfl, SqL.of h1, least_pos e2, fun w hw hle => ?_⟩
        cases least_is e2 hw hle
        exact k g _ (Ext.refl _) hS (.int _)
  · cases e
theorem de_maxL {p : Pos} (hc : X.calm = true) (ha : DB m X W ca a fa) (hK : ca.K = X.K := by rfl) (hg : Gl X "max" := by rfl) (hm : X.mg "max" = none := by assumption) (hs : starEach [a] X.env = (false, eval a X.env) :: starEach [] X.env := by rfl) : DE m X W ca (.Call (.Name "max" p) [a] [] pos) (eCall maxL (aCons fa aNil)) :=
  de_fnB (cr_max hc) hK rel_maxL hg hm (by decide +kernel) (dab_cons ha dab_nil hs) (he := hs)
theorem de_minL {p : Pos} (hc : X.calm = true) (ha : DB m X W ca a fa) (hK : ca.K = X.K := by rfl) (hg : Gl X "min" := by rfl) (hm : X.mg "min" = none := by assumption) (hs : starEach [a] X.env = (false, eval a X.env) :: starEach [] X.env := by rfl) : DE m X W ca (.Call (.Name "min" p) [a] [] pos) (eCall minL (aCons fa aNil)) :=
  de_fnB (cr_min hc) hK rel_minL hg hm (by decide +kernel) (dab_cons ha dab_nil hs) (he := hs)

/-! ### isinstance(x, T) -/
def tyN : D → Option String
  | .non => some "NoneType" | .bl _ => some "bool" | .int _ => some "int" | .str _ => some "str"
  | .lst _ => some "list" | .tup _ => some "tuple" | .dct _ => some "dict"
  | .scr _ => none | .obj _ => none
def isiO (T : String) (a : En → M D) : En → M D := fun env => M.bind (a env) fun x => M.lift ((tyN x).bind fun t => (kitB t T).map D.bl)
theorem tyx_of {ca : Ct} {S : Store} {g : G} {K : PySem.W.Frag} (hS : SOk ca g S) {x : V} {d : D} {t : String} (r : Rb m g x d) (h : tyN d = some t) : TyX K g.H x (.type t) := by
  have r := r.h hS
  cases r with
  | non => cases h; exact .base .non
  | bl b => cases h; exact .base (.bl b)
  | int b => cases h; exact .base (.int b)
  | str b => cases h; exact .base (.str b)
  | lst e _ => cases h; exact .base (.lst e)
  | tup e _ => cases h; exact .base (.tup e)
  | dct e _ => cases h; exact .base (.dK e)
  | scr e => cases h
  | obj e => cases h
theorem de_isi (T : String) {x : Str} {p p2 : Pos} (ha : DB m X W ca a fa) (hv2 : bootBuiltins x = some (.type T)) (hg2 : Gl X x := by rfl) (hm2 : X.mg x = none := by assumption) (hn2 : x ≠ "__name__" := by decide) (hd2 : (x == ("__debug__" : Str)) = false := by decide)
    (hg : Gl X "isinstance" := by rfl) (hm : X.mg "isinstance" = none := by assumption) (hs : starEach [a, .Name x p2] X.env = (false, eval a X.env) :: starEach [.Name x p2] X.env := by rfl) (hs2 : starEach [.Name x p2] X.env = (false, eval (.Name x p2) X.env) :: starEach [] X.env := by rfl) (hpl : (backTo pos (starEach [.Name x p2] X.env)).any (·.1) = false := by rfl) :
    DE m X W ca (.Call (.Name "isinstance" p) [a, .Name x p2] [] pos) (isiO T fa) := by
  obtain ⟨t, pa, k⟩ := ha
  refine ⟨_, pe_callB call_isi hg hm PyProof.Rows.boot_isinstance (pa_cons pa (pa_cons (pe_bltn (v := .ty T) hg2 hm2 hv2 rfl hn2 hd2) pa_nil hs2) hs) (he := hs) (hpl := hpl), fun H0 g S σ env hS hE Q h => ?_⟩
  refine k H0 g S σ env hS hE _ (sat_mono (seqE h) (fun d S1 q g1 v e1 s1 r1 => ?_) fun _ _ q => q)
  obtain ⟨z, hz, q⟩ := sat_lift (q g1 e1)
  cases e2 : tyN d with
  | none => rw [e2] at hz; cases hz
  | some t =>
    rw [e2] at hz
    have hz : (kitB t T).map D.bl = some z := hz
    cases e3 : kitB t T with
    | none => rw [e3] at hz; cases hz
    | some b =>
      rw [e3] at hz; cases hz
      exact ⟨v, .ty T, .type t, .type T, b, rfl, .ty T, tyx_of s1 r1 e2, kit_ty e3, (show okE m ca g1 Q (.bl b) S1 from q) g1 _ (Ext.refl _) s1 (.bl b)⟩
end
end Dn

namespace Dn
open PySem L2

/-- as Ext, but the frame's own things may be written -/
structure Mo (m : Bool) (g g' : G) : Prop where
  same : Same g.F g'.F
  obs : PiLe g.p g'.p
  dom : ∀ b, g'.H b = none → g.H b = none
  pure : m = true → g'.p = g.p ∧ ∀ l a o, g.p l = some a → g.H a = some o → g'.H a = some o
  frz : ∀ b o u, g.H b = some (.frz o u) → g'.H b = some (.frz o u)
theorem Mo.refl {m : Bool} (g : G) : Mo m g g := ⟨Same.refl _, PiLe.refl _, fun _ h => h, fun _ => ⟨rfl, fun _ _ _ _ h => h⟩, fun _ _ _ h => h⟩
theorem Ext.mo {m : Bool} {g g' : G} (e : Ext m g g') : Mo m g g' := ⟨e.same, e.obs, e.dom, e.pure, e.frz⟩
theorem Mo.trans {m : Bool} {g g1 g2 : G} (a : Mo m g g1) (b : Mo m g1 g2) : Mo m g g2 :=
  ⟨a.same.trans b.same, a.obs.trans b.obs, fun c h => a.dom c (b.dom c h), fun h => by
    obtain ⟨p1, k1⟩ := a.pure h
    obtain ⟨p2, k2⟩ := b.pure h
    exact ⟨p2.trans p1, fun l c o x y => k2 l c o (by rw [p1]; exact x) (k1 l c o x y)⟩, fun c o u h => b.frz c o u (a.frz c o u h)⟩
theorem Mo.rp {m : Bool} {g g' : G} (e : Mo m g g') {v : V} {d : D} (h : Rp g.F g.p v d) : Rp g'.F g'.p v d := Rp.mono e.same e.obs h
theorem Mo.rpA {m : Bool} {g g' : G} (e : Mo m g g') {v : List V} {d : List D} (h : RpA g.F g.p v d) : RpA g'.F g'.p v d := RpA.mono e.same e.obs h

/-! ### statements -/
inductive Fl where
  | nx (env : En) | rt (d : D) | rtO (xs : List D) | bk (env : En) | ct (env : En) | ex (c : Str) (env : En)
def okS (m : Bool) (ca : Ct) (W : WX) (g0 g : G) (D : Ends) : Fl → Store → Prop
  | .nx env, S' => ∀ g' σ', Ext m g0 g' → Mo m g g' → SOk ca g' S' → EnvOk g0.H g' σ' env → D.nx σ' g'.H
  | .bk env, S' => ∀ g' σ', Ext m g0 g' → Mo m g g' → SOk ca g' S' → EnvOk g0.H g' σ' env → D.bk σ' g'.H
  | .ct env, S' => ∀ g' σ', Ext m g0 g' → Mo m g g' → SOk ca g' S' → EnvOk g0.H g' σ' env → D.ct σ' g'.H
  | .rt d, S' => ∀ g' v, Ext m g0 g' → Mo m g g' → SOk ca g' S' → Rp g'.F g'.p v d → D.rt v g'.H
  | .rtO xs, S' => ∀ g' q vs, Ext m g0 g' → Mo m g g' → SOk ca g' S' → g0.H q = none → g'.H q = some (.lst vs) → g'.F q = none → (∀ l, g'.p l ≠ some q) → RpA g'.F g'.p vs xs → D.rt (.ref q) g'.H
  | .ex c env, S' => ∀ g' σ', Ext m g0 g' → Mo m g g' → SOk ca g' S' → EnvOk g0.H g' σ' env → W (.ref (ca c)) none σ' g'.H
theorem okS.mono {m : Bool} {ca : Ct} {W : WX} {g0 g g1 : G} {D : Ends} {S : Store} (e : Mo m g g1) : ∀ {f : Fl}, okS m ca W g0 g D f S → okS m ca W g0 g1 D f S
  | .nx env, h => fun g' σ' a b c d => h g' σ' a (e.trans b) c d
  | .bk env, h => fun g' σ' a b c d => h g' σ' a (e.trans b) c d
  | .ct env, h => fun g' σ' a b c d => h g' σ' a (e.trans b) c d
  | .rt d, h => fun g' σ' a b c d => h g' σ' a (e.trans b) c d
  | .rtO xs, h => fun g' q vs a b c d e1 f1 g1 h1 => h g' q vs a (e.trans b) c d e1 f1 g1 h1
  | .ex c env, h => fun g' σ' a b c d => h g' σ' a (e.trans b) c d
abbrev noX : Str → Store → Prop := fun _ _ => False
def DS (m : Bool) (X : Cx) (W : WX) (ca : Ct) (st : Stmt) (f : En → M Fl) : Prop :=
  ∃ t, PS X st t ∧ ∀ g0 g S σ env, Ext m g0 g → SOk ca g S → EnvOk g0.H g σ env → ∀ D : Ends, (f env S).sat (okS m ca W g0 g D) noX → t D σ g.H
def DSs (m : Bool) (X : Cx) (W : WX) (ca : Ct) (st : List Stmt) (f : En → M Fl) : Prop :=
  ∃ t, PSs X st t ∧ ∀ g0 g S σ env, Ext m g0 g → SOk ca g S → EnvOk g0.H g σ env → ∀ D : Ends, (f env S).sat (okS m ca W g0 g D) noX → t D σ g.H
/-- an expression within a statement -/
def liftS {α : Type} (c : M α) (env : En) (k : α → M Fl) : M Fl := fun S => match c S with
  | .ok a S' => k a S'
  | .exc x S' => .ok (.ex x env) S'
  | .bad => .bad
theorem sat_liftS {α : Type} {c : M α} {env : En} {k : α → M Fl} {S : Store} {P : Fl → Store → Prop} (h : (liftS c env k S).sat P noX) : (c S).sat (fun a S' => (k a S').sat P noX) (fun x S' => P (.ex x env) S') := by
  unfold liftS at h
  cases e : c S with
  | ok a S' => rw [e] at h; exact h
  | exc c S' => rw [e] at h; exact h
  | bad => rw [e] at h; exact h
section
variable {m : Bool} {X : Cx} {W : WX} {ca : Ct} {a b e : Expr} {fa fb : En → M D} {pos : Pos} {st : Stmt} {rest : List Stmt} {f r : En → M Fl}
theorem exE_of {g0 g : G} {S : Store} {σ : L2.St} {env : En} {D : Ends} {c : Str} (e0 : Ext m g0 g) (hE : EnvOk g0.H g σ env) (h : okS m ca W g0 g D (.ex c env) S) : exE m ca W g σ c S :=
  fun g' e s => h g' σ (e0.trans e) e.mo s (hE.ext e)
/-- the value, then what follows -/
theorem stE {α : Type} {c : M α} {env : En} {k : α → M Fl} {S : Store} {g0 g : G} {σ : L2.St} {D : Ends} (e0 : Ext m g0 g) (hE : EnvOk g0.H g σ env) (h : (liftS c env k S).sat (okS m ca W g0 g D) noX) :
    (c S).sat (fun a S' => ∀ g', Ext m g g' → (k a S').sat (okS m ca W g0 g' D) noX) (exE m ca W g σ) :=
  sat_mono (sat_liftS h) (fun a S' h g' e => sat_mono h (fun fl S2 q => q.mono e.mo) fun _ _ q => q) fun c S' q => exE_of e0 hE q
def sNil : En → M Fl := fun env => M.ret (.nx env)
def sCons (f r : En → M Fl) : En → M Fl := fun env => M.bind (f env) fun fl => match fl with
  | .nx env' => r env'
  | o => M.ret o
theorem dss_nil : DSs m X W ca [] sNil := ⟨_, pss_nil, fun g0 g S σ env e0 hS hE D h => h g σ e0 (Mo.refl g) hS hE⟩
theorem dss_cons (h1 : DS m X W ca st f) (h2 : DSs m X W ca rest r) : DSs m X W ca (st :: rest) (sCons f r) := by
  obtain ⟨t, p, k⟩ := h1
  obtain ⟨t2, p2, k2⟩ := h2
  refine ⟨_, pss_cons p p2, fun g0 g S σ env e0 hS hE D h => ?_⟩
  refine k g0 g S σ env e0 hS hE _ (sat_mono (sat_bind h) (fun fl S1 q => ?_) fun _ _ q => q)
  cases fl with
  | nx env' => exact fun g' σ' e1 mo s1 hE1 => k2 g0 g' S1 σ' env' e1 s1 hE1 D (sat_mono q (fun fl S2 q => q.mono mo) fun _ _ q => q)
  | rt d => exact q
  | rtO xs => exact q
  | bk env' => exact q
  | ct env' => exact q
  | ex c env' => exact q
theorem dss_one (h1 : DS m X W ca st f) : DSs m X W ca [st] f := by
  obtain ⟨t, p, k⟩ := h1
  exact ⟨_, pss_one p, k⟩
def sExpr (a : En → M D) : En → M Fl := fun env => liftS (a env) env fun _ => M.ret (.nx env)
theorem ds_expr (ha : DE m X W ca a fa) (hs : swapsWith a none pos.line X.env = pure false := by rfl) : DS m X W ca (.Expr a pos) (sExpr fa) := by
  obtain ⟨t, p, k⟩ := ha
  refine ⟨_, ps_expr p hs, fun g0 g S σ env e0 hS hE D h => ?_⟩
  exact k g0.H g S σ env hS hE _ (sat_mono (stE e0 hE h) (fun d S1 q g1 v e1 s1 r1 => (show okS m ca W g0 g1 D (.nx env) S1 from q g1 e1) g1 σ (e0.trans e1) (Mo.refl _) s1 (hE.ext e1)) fun _ _ q => q)
def sRet (a : En → M D) : En → M Fl := fun env => liftS (a env) env fun d => M.ret (.rt d)
theorem ds_ret (ha : DE m X W ca a fa) : DS m X W ca (.Return (some a) pos) (sRet fa) := by
  obtain ⟨t, p, k⟩ := ha
  refine ⟨_, ps_ret p, fun g0 g S σ env e0 hS hE D h => ?_⟩
  exact k g0.H g S σ env hS hE _ (sat_mono (stE e0 hE h) (fun d S1 q g1 v e1 s1 r1 => (show okS m ca W g0 g1 D (.rt d) S1 from q g1 e1) g1 v (e0.trans e1) (Mo.refl _) s1 r1) fun _ _ q => q)
def sRetO (a : En → M (List D)) : En → M Fl := fun env => liftS (a env) env fun d => M.ret (.rtO d)
theorem ds_retO {fo : En → M (List D)} (ha : DO m X W ca a fo) : DS m X W ca (.Return (some a) pos) (sRetO fo) := by
  obtain ⟨t, p, k⟩ := ha
  refine ⟨_, ps_ret p, fun g0 g S σ env e0 hS hE D h => ?_⟩
  exact k g0.H g S σ env hS hE _ (sat_mono (stE e0 hE h) (fun d S1 q g1 l vs e1 s1 n h1 h2 h3 r => (show okS m ca W g0 g1 D (.rtO d) S1 from q g1 e1) g1 l vs (e0.trans e1) (Mo.refl _) s1 (e0.dom _ n) h1 h2 h3 r) fun _ _ q => q)
/-- return x, a list of the frame's own -/
def sRetV (i : Nat) : En → M Fl := fun env => match env[i]? with
  | some (.f d) => M.ret (.rt d)
  | some (.o xs) => M.ret (.rtO xs)
  | _ => M.bad
theorem ds_retV (i : Nat) {x : Str} {p2 : Pos} (hN : X.N[i]? = some x := by rfl) (hv : Vis X.env.scope x := by first | exact Or.inl rfl | exact Or.inr (Or.inl rfl) | exact Or.inr (Or.inr rfl)) (hd : (x == ("__debug__" : Str)) = false := by decide)
    (hcd : (x == ("__classdict__" : Str)) = false := by decide) : DS m X W ca (.Return (some (.Name x p2)) pos) (sRetV i) := by
  refine ⟨_, ps_ret (pe_var hN hv hd hcd), fun g0 g S σ env e0 hS hE D h => ?_⟩
  unfold sRetV at h
  cases e : env[i]? with
  | none => rw [e] at h; exact h.elim
  | some w =>
    rw [e] at h
    obtain ⟨v, h1, h2⟩ := hE.get e
    cases w with
    | u => exact h.elim
    | x a => exact h.elim
    | k _ => exact h.elim
    | f d =>
      obtain ⟨w, rfl, q⟩ := h2
      exact ⟨w, h1, (show okS m ca W g0 g D (.rt d) S from h) g w e0 (Mo.refl _) hS q⟩
    | o xs =>
      obtain ⟨l, vs, rfl, q1, q2, q3⟩ := h2
      exact ⟨_, h1, (show okS m ca W g0 g D (.rtO xs) S from h) g l vs e0 (Mo.refl _) hS q3.new q1 q3.out q3.nop q2⟩
def sRetN : En → M Fl := fun env => M.ret (.rt .non)
theorem ds_retN : DS m X W ca (.Return none pos) sRetN := ⟨_, ps_retN, fun g0 g S σ env e0 hS hE D h => h g _ e0 (Mo.refl _) hS .non⟩
def sIf (c : En → M Bool) (t u : En → M Fl) : En → M Fl := fun env => liftS (c env) env fun b => if b = true then t env else u env
theorem ds_if {c : Expr} {x y : List Stmt} {fc : En → M Bool} {t u : En → M Fl} (hc : DT m X W ca c fc) (hx : DSs m X W ca x t) (hy : DSs m X W ca y u) : DS m X W ca (.If c x y pos) (sIf fc t u) := by
  obtain ⟨t1, p1, k1⟩ := hc
  obtain ⟨t2, p2, k2⟩ := hx
  obtain ⟨t3, p3, k3⟩ := hy
  refine ⟨_, ps_if p1 p2 p3, fun g0 g S σ env e0 hS hE D h => ?_⟩
  refine k1 g0.H g S σ env hS hE _ (sat_mono (stE e0 hE h) (fun b S1 q g1 e1 s1 => ?_) fun _ _ q => q)
  have q := q g1 e1
  cases b with
  | true => exact k2 g0 g1 S1 σ env (e0.trans e1) s1 (hE.ext e1) D q
  | false => exact k3 g0 g1 S1 σ env (e0.trans e1) s1 (hE.ext e1) D q
theorem ds_pass : DS m X W ca (.Pass pos) sNil := ⟨_, ps_pass, fun g0 g S σ env e0 hS hE D h => h g σ e0 (Mo.refl g) hS hE⟩
def sBrk : En → M Fl := fun env => M.ret (.bk env)
theorem ds_break : DS m X W ca (.Break pos) sBrk := ⟨_, ps_break, fun g0 g S σ env e0 hS hE D h => h g σ e0 (Mo.refl g) hS hE⟩
def sCnt : En → M Fl := fun env => M.ret (.ct env)
theorem ds_cont : DS m X W ca (.Continue pos) sCnt := ⟨_, ps_continue, fun g0 g S σ env e0 hS hE D h => h g σ e0 (Mo.refl g) hS hE⟩
theorem ds_doc {x : Str} {j : Nat} {p2 : Pos} : DS m X W ca (.Expr (.Constant (.str x) j p2) pos) sNil := ⟨_, ps_doc, fun g0 g S σ env e0 hS hE D h => h g σ e0 (Mo.refl g) hS hE⟩

/-! ### stores to names -/
def sSet (i : Nat) (a : En → M D) : En → M Fl := fun env => liftS (a env) env fun d => M.ret (.nx (env.set i (.f d)))
theorem ds_set {x : Str} {p2 : Pos} (i : Nat) (hN : X.N.Nodup) (hi : X.N[i]? = some x) (hx : L2.Loc X.env.scope x) (ha : DE m X W ca a fa) (hs : swapsWith a (some (.Name x p2)) pos.line X.env = pure false := by rfl)
    (hf : X.fn x = true ∨ X.env.scope.names.lookup x = some .local := by first | exact .inl rfl | exact .inr rfl | assumption) : DS m X W ca (.Assign [.Name x p2] a pos) (sSet i fa) := by
  obtain ⟨t, p, k⟩ := ha
  refine ⟨_, ps_set hN hi hx p hs hf, fun g0 g S σ env e0 hS hE D h => ?_⟩
  exact k g0.H g S σ env hS hE _ (sat_mono (stE e0 hE h) (fun d S1 q g1 v e1 s1 r1 => (show okS m ca W g0 g1 D (.nx (env.set i (.f d))) S1 from q g1 e1) g1 _ (e0.trans e1) (Mo.refl _) s1 ((hE.ext e1).set i r1)) fun _ _ q => q)
/-- a slot takes what is the frame's own -/
theorem EnvOk.setO {H0 : Hp} {g : G} {σ : L2.St} {env : En} (h : EnvOk H0 g σ env) (i : Nat) {q : Addr} {w : EV} (hw : EvOk H0 g (some (.ref q)) w) (new : ∀ (j : Nat) (w' : EV), σ[j]? = some (some (.ref q)) → env[j]? = some w' → w'.own = true → j = i) : EnvOk H0 g (σ.set i (some (.ref q))) (env.set i w) := by
  refine ⟨by simp [h.len], fun j x y a b => ?_, fun j k x y y' ne a b c d' o o' => ?_⟩
  · by_cases hj : i = j
    · subst hj
      have hi : i < env.length := by
        have := (List.getElem?_eq_some_iff.mp b).1
        simpa using this
      rw [List.getElem?_set_self hi] at b
      rw [List.getElem?_set_self (by rw [h.len]; exact hi)] at a
      cases a; cases b
      exact hw
    · rw [List.getElem?_set_ne hj] at a b
      exact h.at_ j x y a b
  · by_cases hj : i = j
    · subst hj
      by_cases hk : i = k
      · exact ne hk
      · have hi : i < env.length := by
          have := (List.getElem?_eq_some_iff.mp c).1
          simpa using this
        rw [List.getElem?_set_self (by rw [h.len]; exact hi)] at a
        rw [List.getElem?_set_ne hk] at b d'
        cases a
        exact hk (new k y' b d' o').symm
    · by_cases hk : i = k
      · subst hk
        have hi : i < env.length := by
          have := (List.getElem?_eq_some_iff.mp d').1
          simpa using this
        rw [List.getElem?_set_self (by rw [h.len]; exact hi)] at b
        rw [List.getElem?_set_ne hj] at a c
        cases b
        exact hj (new j y a c o).symm
      · rw [List.getElem?_set_ne hj] at a c
        rw [List.getElem?_set_ne hk] at b d'
        exact h.apart j k x y y' ne a b c d' o o'
theorem EnvOk.fresh {H0 : Hp} {g : G} {σ : L2.St} {env : En} (h : EnvOk H0 g σ env) {q : Addr} (n : g.H q = none) (j : Nat) (w : EV) (a : σ[j]? = some (some (.ref q))) (b : env[j]? = some w) (o : w.own = true) : False := by
  have r := h.at_ j _ w a b
  cases w with
  | u => cases o
  | x b => cases o
  | f d => cases o
  | o xs => obtain ⟨l, vs, e, h1, _⟩ := r; cases e; rw [n] at h1; cases h1
  | k xs => obtain ⟨l, vs, e, h1, _⟩ := r; cases e; rw [n] at h1; cases h1
def sSetO (i : Nat) (a : En → M (List D)) : En → M Fl := fun env => liftS (a env) env fun d => M.ret (.nx (env.set i (.o d)))
theorem setO_ok {t : TE} {fo : En → M (List D)} {i : Nat} (k : ∀ H0 g S σ env, SOk ca g S → EnvOk H0 g σ env → ∀ Q : VK, (fo env S).sat (okO m ca g Q) (exE m ca W g σ) → t σ g.H Q) :
    ∀ g0 g S σ env, Ext m g0 g → SOk ca g S → EnvOk g0.H g σ env → ∀ D : Ends, (sSetO i fo env S).sat (okS m ca W g0 g D) noX → tAsg t (gName i) D σ g.H := fun g0 g S σ env e0 hS hE D h => by
  refine k g0.H g S σ env hS hE _ (sat_mono (stE e0 hE h) (fun d S1 q g1 l vs e1 s1 n h1 h2 h3 r => ?_) fun _ _ q => q)
  refine (show okS m ca W g0 g1 D (.nx (env.set i (.o d))) S1 from q g1 e1) g1 _ (e0.trans e1) (Mo.refl _) s1 ((hE.ext e1).setO i ⟨l, vs, rfl, h1, r, h2, h3, e0.dom _ n⟩ fun j w' a b o => ?_)
  exact (hE.fresh n j w' a b o).elim
theorem ds_setO {x : Str} {p2 : Pos} {fo : En → M (List D)} (i : Nat) (hN : X.N.Nodup) (hi : X.N[i]? = some x) (hx : L2.Loc X.env.scope x) (ha : DO m X W ca a fo) (hs : swapsWith a (some (.Name x p2)) pos.line X.env = pure false := by rfl)
    (hf : X.fn x = true ∨ X.env.scope.names.lookup x = some .local := by first | exact .inl rfl | exact .inr rfl | assumption) : DS m X W ca (.Assign [.Name x p2] a pos) (sSetO i fo) := by
  obtain ⟨t, p, k⟩ := ha
  exact ⟨_, ps_set hN hi hx p hs hf, setO_ok k⟩
/-- the frame's own list in slot i becomes data -/
def fzE (i : Nat) (env : En) : En := match env[i]? with
  | some (.o xs) => env.set i (.f (.lst xs))
  | some (.k xs) => env.set i (.f (.dct xs))
  | _ => env
def sFz (i : Nat) (f : En → M Fl) : En → M Fl := fun env => f (fzE i env)
theorem fz_ok {g0 g : G} {S : Store} {σ : L2.St} {env : En} (i : Nat) (e0 : Ext m g0 g) (hS : SOk ca g S) (hE : EnvOk g0.H g σ env) : ∃ g', g'.H = g.H ∧ Ext m g0 g' ∧ Mo m g g' ∧ SOk ca g' S ∧ EnvOk g0.H g' σ (fzE i env) := by
  have key : ∀ (q : Addr) (o : HO) (d : D) (w : EV), env[i]? = some w → w.own = true → σ[i]? = some (some (.ref q)) → g.H q = some o → OwnAt g0.H g q → Rp (upd g.F q o) g.p (.ref q) d →
      ∃ g', g'.H = g.H ∧ Ext m g0 g' ∧ Mo m g g' ∧ SOk ca g' S ∧ EnvOk g0.H g' σ (env.set i (.f d)) := fun q o d w ew ow es hq hn hr => by
    have sm : Same g.F (g.fr q o).F := Same.upF hn.out
    refine ⟨g.fr q o, rfl, ext_fr e0 hn.new hn.out, ⟨sm, PiLe.refl _, fun _ h => h, fun _ => ⟨rfl, fun _ _ _ _ h => h⟩, fun _ _ _ h => h⟩, sok_fr hS hq hn.out hn.nop, ?_⟩
    have hi : i < env.length := (List.getElem?_eq_some_iff.mp ew).1
    refine ⟨by simp [hE.len], fun j x y a b => ?_, fun j k x y y' ne a b c d' o1 o2 => ?_⟩
    · by_cases hj : i = j
      · subst hj
        rw [List.getElem?_set_self hi] at b
        cases b
        rw [es] at a; cases a
        exact ⟨_, rfl, hr⟩
      · rw [List.getElem?_set_ne hj] at b
        have z := hE.at_ j x y a b
        have keep : ∀ l, y.own = true → x = some (.ref l) → l ≠ q := fun l oy ex z => by
          subst z; subst ex
          exact hE.apart i j _ w y hj es a ew b ow oy
        cases y with
        | u => trivial
        | x b => exact z
        | f d => obtain ⟨v, h1, h2⟩ := z; exact ⟨v, h1, Rp.mono sm (PiLe.refl _) h2⟩
        | o xs =>
          obtain ⟨l, vs, h1, h2, h3, h4⟩ := z
          refine ⟨l, vs, h1, h2, RpA.mono sm (PiLe.refl _) h3, ?_, h4.nop, h4.new⟩
          show upd g.F q o l = none
          rw [upd_ne (keep l rfl h1)]; exact h4.out
        | k xs =>
          obtain ⟨l, vs, h1, h2, h3, h4⟩ := z
          refine ⟨l, vs, h1, h2, RpK.mono sm (PiLe.refl _) h3, ?_, h4.nop, h4.new⟩
          show upd g.F q o l = none
          rw [upd_ne (keep l rfl h1)]; exact h4.out
    · have nj : i ≠ j := fun z => by
        subst z
        rw [List.getElem?_set_self hi] at c
        cases c; cases o1
      have nk : i ≠ k := fun z => by
        subst z
        rw [List.getElem?_set_self hi] at d'
        cases d'; cases o2
      rw [List.getElem?_set_ne nj] at c
      rw [List.getElem?_set_ne nk] at d'
      exact hE.apart j k x y y' ne a b c d' o1 o2
  have same : ∃ g', g'.H = g.H ∧ Ext m g0 g' ∧ Mo m g g' ∧ SOk ca g' S ∧ EnvOk g0.H g' σ env := ⟨g, rfl, e0, Mo.refl _, hS, hE⟩
  unfold fzE
  cases e : env[i]? with
  | none => exact same
  | some w =>
    cases w with
    | u => exact same
    | x b => exact same
    | f d => exact same
    | o xs =>
      obtain ⟨v, h1, q, vs, rfl, h3, h4, h5⟩ := hE.get e
      exact key q _ _ _ e rfl h1 h3 h5 (rp_lst h5.out h4)
    | k xs =>
      obtain ⟨v, h1, q, vs, rfl, h3, h4, h5⟩ := hE.get e
      exact key q _ _ _ e rfl h1 h3 h5 (rp_dct h5.out h4)
theorem dss_fz (i : Nat) {sts : List Stmt} (h : DSs m X W ca sts f) : DSs m X W ca sts (sFz i f) := by
  obtain ⟨t, p, k⟩ := h
  refine ⟨t, p, fun g0 g S σ env e0 hS hE D h => ?_⟩
  obtain ⟨g', h1, h2, h3, h4, h5⟩ := fz_ok i e0 hS hE
  rw [← h1]
  exact k g0 g' S σ _ h2 h4 h5 D (sat_mono h (fun _ _ q => q.mono h3) fun _ _ q => q)
end
end Dn

namespace Dn
open PySem L2

/-! ### what is walked -/
def Rq (q m : Bool) (g g' : G) : Prop := match q with
  | true => Mo m g g'
  | false => Ext m g g'
theorem Rq.mo {q m : Bool} {g g' : G} (h : Rq q m g g') : Mo m g g' := by
  cases q with
  | true => exact h
  | false => exact Ext.mo h
def ItOk (q m : Bool) (ca : Ct) (g : G) (J : It) (ds : List D) : Prop :=
  ∀ g' S, Rq q m g g' → SOk ca g' S → ∀ i, (∀ d, ds[i]? = some d → J.go i g'.H ∧ ∀ x H', J.yld i g'.H x H' → H' = g'.H ∧ Rp g'.F g'.p x d) ∧ (ds.length ≤ i → J.stop i g'.H)
def DI (q m : Bool) (X : Cx) (W : WX) (ca : Ct) (e : Expr) (f : En → M (List D)) : Prop :=
  ∃ wi : TI, (∀ tg, PI X tg e wi) ∧ ∀ H0 g S σ env, SOk ca g S → EnvOk H0 g σ env → ∀ R : It → Hp → Prop,
    (f env S).sat (fun ds S' => ∀ g' J, Ext m g g' → SOk ca g' S' → ItOk q m ca g' J ds → R J g'.H) (exE m ca W g σ) → wi σ g.H R
theorem itl_ok {q m : Bool} {ca : Ct} {K : PySem.W.Frag} {g : G} {a : Addr} {vs : List V} {ds : List D} (h : ∀ g' S, Rq q m g g' → SOk ca g' S → SqL K g'.H a vs) (r : RpA g.F g.p vs ds) : ItOk q m ca g (Itl K a) ds := fun g' S e hS i => by
  have h' := h g' S e hS
  have r' := e.mo.rpA r
  refine ⟨fun d hd => ?_, fun hl => ⟨vs, h', by rw [r'.length]; exact hl⟩⟩
  obtain ⟨v, h1, h2⟩ := r'.get i hd
  refine ⟨⟨vs, v, h', h1⟩, fun x H' y => ?_⟩
  obtain ⟨y1, y2⟩ := y
  have := y2 vs h'
  rw [h1] at this; cases this
  exact ⟨y1, h2⟩
theorem itt_ok {q m : Bool} {ca : Ct} {K : PySem.W.Frag} {g : G} {a : Addr} {vs : List V} {ds : List D} (h : g.F a = some (.tup vs)) (r : RpA g.F g.p vs ds) : ItOk q m ca g (Itt K a) ds := fun g' S e hS i => by
  have h' : SqT K g'.H a vs := SqT.of (hS.same _ _ (e.mo.same _ _ h))
  have r' := e.mo.rpA r
  refine ⟨fun d hd => ?_, fun hl => ⟨vs, h', by rw [r'.length]; exact hl⟩⟩
  obtain ⟨v, h1, h2⟩ := r'.get i hd
  refine ⟨⟨vs, v, h', h1⟩, fun x H' y => ?_⟩
  obtain ⟨y1, y2⟩ := y
  have := y2 vs h'
  rw [h1] at this; cases this
  exact ⟨y1, h2⟩
def rng (lo : Int) (n : Nat) : List D := (List.range n).map fun i => .int (lo + (i : Nat))
def rngC (lo c : Int) (n : Nat) : List D := (List.range n).map fun i => .int (lo + (i : Nat) * c)
theorem rng_get {lo : Int} {n i : Nat} {d : D} (h : (rng lo n)[i]? = some d) : i < n ∧ d = .int (lo + (i : Nat)) := by
  unfold rng at h
  rw [List.getElem?_map] at h
  by_cases hi : i < n
  · rw [List.getElem?_range hi] at h; cases h; exact ⟨hi, rfl⟩
  · rw [List.getElem?_eq_none (by simpa using hi)] at h; cases h
theorem rngC_get {lo c : Int} {n i : Nat} {d : D} (h : (rngC lo c n)[i]? = some d) : i < n ∧ d = .int (lo + (i : Nat) * c) := by
  unfold rngC at h
  rw [List.getElem?_map] at h
  by_cases hi : i < n
  · rw [List.getElem?_range hi] at h; cases h; exact ⟨hi, rfl⟩
  · rw [List.getElem?_eq_none (by simpa using hi)] at h; cases h
theorem itr_ok {q m : Bool} {ca : Ct} {g : G} {lo : Int} {n : Nat} : ItOk q m ca g (Itr lo n) (rng lo n) := fun g' S e hS i => by
  refine ⟨fun d hd => ?_, fun hl => show n ≤ i by simpa [rng] using hl⟩
  obtain ⟨h1, rfl⟩ := rng_get hd
  refine ⟨h1, fun x H' y => ?_⟩
  obtain ⟨y1, rfl⟩ := y
  exact ⟨y1, .int _⟩
theorem itc_ok {q m : Bool} {ca : Ct} {g : G} {lo c : Int} {n : Nat} : ItOk q m ca g (Itc lo c n) (rngC lo c n) := fun g' S e hS i => by
  refine ⟨fun d hd => ?_, fun hl => show n ≤ i by simpa [rngC] using hl⟩
  obtain ⟨h1, rfl⟩ := rngC_get hd
  refine ⟨h1, fun x H' y => ?_⟩
  obtain ⟨y1, rfl⟩ := y
  exact ⟨y1, .int _⟩
def signsD (s : Str) : List D := s.cps.toList.map fun c => .str ⟨#[c]⟩
theorem its_ok {q m : Bool} {ca : Ct} {g : G} {s : Str} : ItOk q m ca g (Its s) (signsD s) := fun g' S e hS i => by
  refine ⟨fun d hd => ?_, fun hl => show s.cps.size ≤ i by simpa [signsD] using hl⟩
  unfold signsD at hd
  rw [List.getElem?_map] at hd
  cases e1 : s.cps.toList[i]? with
  | none => rw [e1] at hd; cases hd
  | some c =>
    rw [e1] at hd; cases hd
    have e2 : s.cps[i]? = some c := by simpa using e1
    refine ⟨(Array.getElem?_eq_some_iff.mp e2).1, fun x H' y => ?_⟩
    obtain ⟨y1, c', h1, rfl⟩ := y
    rw [e2] at h1; cases h1
    exact ⟨y1, .str _⟩
section
variable {q m : Bool} {X : Cx} {W : WX} {ca : Ct} {a b c e : Expr} {fa fb fc : En → M D} {pos : Pos}
def iL (a : En → M D) : En → M (List D) := fun env => M.bind (a env) fun x => match x with
  | .lst xs => M.ret xs
  | .scr ns => M.ret (ns.map D.int)
  | _ => M.bad
theorem seqI {α β : Type} {c : M α} {k : α → M β} {S : Store} {g : G} {σ : L2.St} {P : G → β → Store → Prop} (hP : ∀ g g' a S, Ext m g g' → P g a S → P g' a S) (h : (M.bind c k S).sat (P g) (exE m ca W g σ)) :
    (c S).sat (fun a S' => ∀ g', Ext m g g' → (k a S').sat (P g') (exE m ca W g' σ)) (exE m ca W g σ) :=
  sat_mono (sat_bind h) (fun a S' h g' e => sat_mono h (fun d S2 q => hP _ _ _ _ e q) fun c S2 q => q.mono e) fun _ _ q => q
abbrev itP (q m : Bool) (ca : Ct) (R : It → Hp → Prop) : G → List D → Store → Prop := fun g ds S' => ∀ g' J, Ext m g g' → SOk ca g' S' → ItOk q m ca g' J ds → R J g'.H
theorem itP.mono {R : It → Hp → Prop} : ∀ g g' (ds : List D) S, Ext m g g' → itP q m ca R g ds S → itP q m ca R g' ds S := fun g g' ds S e h g2 J e2 => h g2 J (e.trans e2)
theorem di_list (ha : DE m X W ca a fa) (hK : ca.K = X.K := by rfl) : DI q m X W ca a (iL fa) := by
  obtain ⟨t, p, k⟩ := ha
  refine ⟨_, fun tg => pi_list p, fun H0 g S σ env hS hE R h => ?_⟩
  refine k H0 g S σ env hS hE _ (sat_mono (seqI (P := itP q m ca R) itP.mono h) (fun x S1 z g1 v e1 s1 r1 => ?_) fun _ _ q => q)
  have z := z g1 e1
  cases r1 with
  | lst h1 t1 => exact ⟨_, rfl, ⟨_, SqL.of (s1.same _ _ h1)⟩, (show itP q m ca R g1 _ S1 from z) g1 _ (Ext.refl _) s1 (itl_ok (fun g' S e hS => SqL.of (hS.same _ _ (e.mo.same _ _ h1))) t1)⟩
  | scr h1 =>
    have hq := (s1.sc _ _ h1).sq
    rw [hK] at hq
    exact ⟨_, rfl, ⟨_, hq⟩, (show itP q m ca R g1 _ S1 from z) g1 _ (Ext.refl _) s1 (itl_ok (fun g' S e hS => by rw [← hK]; exact (hS.sc _ _ (e.mo.obs.2 _ _ h1)).sq) (RpA.ints _))⟩
  | _ => exact z.elim
/-- a list that is read for now: for comprehensions -/
theorem di_listB (ha : DB m X W ca a fa) (hK : ca.K = X.K := by rfl) : DI false m X W ca a (iL fa) := by
  obtain ⟨t, p, k⟩ := ha
  refine ⟨_, fun tg => pi_list p, fun H0 g S σ env hS hE R h => ?_⟩
  refine k H0 g S σ env hS hE _ (sat_mono (seqI (P := itP false m ca R) itP.mono h) (fun x S1 z g1 v e1 s1 r1 => ?_) fun _ _ q => q)
  have z := z g1 e1
  cases x with
  | lst xs =>
    obtain ⟨a, vs, rfl, h1, h2⟩ := r1.lst s1
    refine ⟨a, rfl, ⟨vs, SqL.of h1⟩, (show itP false m ca R g1 xs S1 from z) g1 _ (Ext.refl _) s1 (itl_ok (fun g' S e hS => ?_) h2)⟩
    have e : Ext m g1 g' := e
    rcases r1 with r1 | ⟨q, vs', xs', h3, h4, h5, h6, h7⟩ | ⟨_, _, _, _, h4, _⟩
    · cases r1 with
      | lst y1 y2 =>
        have := s1.same _ _ y1
        rw [h1] at this; cases this
        exact SqL.of (hS.same _ _ (e.same _ _ y1))
    · cases h3; cases h4
      rw [h1] at h5; cases h5
      exact SqL.of (h6.ext h1 hS.out e).2
    · cases h4
  | scr ns =>
    have r := r1.h s1
    rcases r1 with r1 | ⟨_, _, _, _, h, _⟩ | ⟨_, _, _, _, h, _⟩
    · cases r1 with
      | scr h1 =>
        have hq := (s1.sc _ _ h1).sq
        rw [hK] at hq
        exact ⟨_, rfl, ⟨_, hq⟩, (show itP false m ca R g1 _ S1 from z) g1 _ (Ext.refl _) s1 (itl_ok (fun g' S e hS => by rw [← hK]; exact (hS.sc _ _ ((Rq.mo e).obs.2 _ _ h1)).sq) (RpA.ints _))⟩
    · cases h
    · cases h
  | _ => exact z.elim
def iT (a : En → M D) : En → M (List D) := fun env => M.bind (a env) fun x => match x with
  | .tup xs => M.ret xs
  | _ => M.bad
theorem di_tup (ha : DE m X W ca a fa) : DI q m X W ca a (iT fa) := by
  obtain ⟨t, p, k⟩ := ha
  refine ⟨_, fun tg => pi_tup p, fun H0 g S σ env hS hE R h => ?_⟩
  refine k H0 g S σ env hS hE _ (sat_mono (seqI (P := itP q m ca R) itP.mono h) (fun x S1 z g1 v e1 s1 r1 => ?_) fun _ _ q => q)
  have z := z g1 e1
  cases r1 with
  | tup h1 t1 => exact ⟨_, rfl, ⟨_, SqT.of (s1.same _ _ h1)⟩, (show itP q m ca R g1 _ S1 from z) g1 _ (Ext.refl _) s1 (itt_ok h1 t1)⟩
  | _ => exact z.elim
def iS (a : En → M D) : En → M (List D) := fun env => M.bind (a env) fun x => match x with
  | .str s => M.ret (signsD s)
  | _ => M.bad
theorem di_str (ha : DE m X W ca a fa) : DI q m X W ca a (iS fa) := by
  obtain ⟨t, p, k⟩ := ha
  refine ⟨_, fun tg => pi_str p, fun H0 g S σ env hS hE R h => ?_⟩
  refine k H0 g S σ env hS hE _ (sat_mono (seqI (P := itP q m ca R) itP.mono h) (fun x S1 z g1 v e1 s1 r1 => ?_) fun _ _ q => q)
  have z := z g1 e1
  cases r1 with
  | str s => exact ⟨s, rfl, (show itP q m ca R g1 _ S1 from z) g1 _ (Ext.refl _) s1 its_ok⟩
  | _ => exact z.elim
def iR1 (a : En → M D) : En → M (List D) := fun env => M.bind (a env) fun x => match x with
  | .int n => if -1000000 ≤ n ∧ n ≤ 1000000 then M.ret (rng 0 n.toNat) else M.bad
  | _ => M.bad
def iR2 (a b : En → M D) : En → M (List D) := fun env => M.bind (a env) fun x => M.bind (b env) fun y => match x, y with
  | .int i, .int j => if -1000000 ≤ i ∧ i ≤ 1000000 ∧ -1000000 ≤ j ∧ j ≤ 1000000 then M.ret (rng i (j - i).toNat) else M.bad
  | _, _ => M.bad
theorem di_range1 {p : Pos} (ha : DE m X W ca a fa) (hg : Gl X "range" := by rfl) (hm : X.mg "range" = none := by assumption) (hs : starEach [a] X.env = [(false, eval a X.env)] := by rfl) : DI q m X W ca (.Call (.Name "range" p) [a] [] pos) (iR1 fa) := by
  obtain ⟨t, pa, k⟩ := ha
  refine ⟨_, fun tg => pi_range1 hg hm (pa_cons pa pa_nil hs) hs, fun H0 g S σ env hS hE R h => ?_⟩
  refine k H0 g S σ env hS hE _ (sat_mono (seqI (P := itP q m ca R) itP.mono h) (fun x S1 z g1 v e1 s1 r1 => ?_) fun _ _ q => q)
  have z := z g1 e1
  cases x with
  | int n =>
    cases r1
    dsimp only at z
    by_cases c : -1000000 ≤ n ∧ n ≤ 1000000
    · rw [if_pos c] at z
      exact ⟨n, rfl, by omega, by omega, (show itP q m ca R g1 _ S1 from z) g1 _ (Ext.refl _) s1 itr_ok⟩
    · rw [if_neg c] at z; exact z.elim
  | _ => exact z.elim
theorem di_range2 {p : Pos} (ha : DE m X W ca a fa) (hb : DE m X W ca b fb) (hg : Gl X "range" := by rfl) (hm : X.mg "range" = none := by assumption) (hs : starEach [a, b] X.env = [(false, eval a X.env), (false, eval b X.env)] := by rfl) (hs2 : starEach [b] X.env = [(false, eval b X.env)] := by rfl) :
    DI q m X W ca (.Call (.Name "range" p) [a, b] [] pos) (iR2 fa fb) := by
  obtain ⟨t, pa, k⟩ := ha
  obtain ⟨t2, pb, k2⟩ := hb
  refine ⟨_, fun tg => pi_range2 hg hm (pa_cons pa (pa_cons pb pa_nil hs2) (by rw [hs, hs2])) hs hs2, fun H0 g S σ env hS hE R h => ?_⟩
  refine k H0 g S σ env hS hE _ (sat_mono (seqI (P := itP q m ca R) itP.mono h) (fun x S1 z g1 v e1 s1 r1 => ?_) fun _ _ q => q)
  refine k2 H0 g1 S1 σ env s1 (hE.ext e1) _ (sat_mono (seqI (P := itP q m ca R) itP.mono (z g1 e1)) (fun y S2 z g2 u e2 s2 r2 => ?_) fun _ _ q => q)
  have z := z g2 e2
  cases x with
  | int i =>
    cases y with
    | int j =>
      cases r1; cases r2
      dsimp only at z
      by_cases c : -1000000 ≤ i ∧ i ≤ 1000000 ∧ -1000000 ≤ j ∧ j ≤ 1000000
      · rw [if_pos c] at z
        exact ⟨i, j, rfl, by omega, (show itP q m ca R g2 _ S2 from z) g2 _ (Ext.refl _) s2 itr_ok⟩
      · rw [if_neg c] at z; exact z.elim
    | _ => exact z.elim
  | _ => exact z.elim
def iR3 (a b c : En → M D) : En → M (List D) := fun env => M.bind (a env) fun x => M.bind (b env) fun y => M.bind (c env) fun z => match x, y, z with
  | .int i, .int j, .int k => if k ≠ 0 ∧ k.natAbs < 1073741824 ∧ Builtin.Range.small i j k = true ∧ 0 ≤ Builtin.Range.rangeSize i j k then M.ret (rngC i k (Builtin.Range.rangeSize i j k).toNat) else M.bad
  | _, _, _ => M.bad
theorem di_range3 {p : Pos} (ha : DE m X W ca a fa) (hb : DE m X W ca b fb) (hc : DE m X W ca c fc) (hg : Gl X "range" := by rfl) (hm : X.mg "range" = none := by assumption) (hs : starEach [a, b, c] X.env = (false, eval a X.env) :: starEach [b, c] X.env := by rfl) (hs2 : starEach [b, c] X.env = (false, eval b X.env) :: starEach [c] X.env := by rfl) (hs3 : starEach [c] X.env = (false, eval c X.env) :: starEach [] X.env := by rfl)
    (hpi : ∀ (tg : Expr) (ta : TA), PA X [a, b, c] ta → PI X tg (.Call (.Name "range" p) [a, b, c] [] pos) (iRng3 ta) := by exact fun _ _ h => pi_range3 (by rfl) (by assumption) h) :
    DI q m X W ca (.Call (.Name "range" p) [a, b, c] [] pos) (iR3 fa fb fc) := by
  obtain ⟨t, pa, k⟩ := ha
  obtain ⟨t2, pb, k2⟩ := hb
  obtain ⟨t3, pc, k3⟩ := hc
  refine ⟨_, fun tg => hpi tg _ (pa_cons pa (pa_cons pb (pa_cons pc pa_nil hs3) hs2) hs), fun H0 g S σ env hS hE R h => ?_⟩
  refine k H0 g S σ env hS hE _ (sat_mono (seqI (P := itP q m ca R) itP.mono h) (fun x S1 z g1 v e1 s1 r1 => ?_) fun _ _ q => q)
  refine k2 H0 g1 S1 σ env s1 (hE.ext e1) _ (sat_mono (seqI (P := itP q m ca R) itP.mono (z g1 e1)) (fun y S2 z g2 u e2 s2 r2 => ?_) fun _ _ q => q)
  refine k3 H0 g2 S2 σ env s2 (hE.ext (e1.trans e2)) _ (sat_mono (seqI (P := itP q m ca R) itP.mono (z g2 e2)) (fun w S3 z g3 u3 e3 s3 r3 => ?_) fun _ _ q => q)
  have z := z g3 e3
  cases x with
  | int i =>
    cases y with
    | int j =>
      cases w with
      | int l =>
        cases r1; cases r2; cases r3
        dsimp only at z
        by_cases c : l ≠ 0 ∧ l.natAbs < 1073741824 ∧ Builtin.Range.small i j l = true ∧ 0 ≤ Builtin.Range.rangeSize i j l
        · rw [if_pos c] at z
          exact ⟨i, j, l, (Builtin.Range.rangeSize i j l).toNat, rfl, ⟨c.1, c.2.1, c.2.2.1, by omega⟩, (show itP q m ca R g3 _ S3 from z) g3 _ (Ext.refl _) s3 itc_ok⟩
        · rw [if_neg c] at z; exact z.elim
      | _ => exact z.elim
    | _ => exact z.elim
  | _ => exact z.elim
end

/-! ### targets -/
theorem wipe_at {σ : L2.St} {i : Nat} : ∀ {vs : List Nat}, i ∈ vs → i < σ.length → (wipe σ vs)[i]? = some none
  | v :: vs, h, hi => by
    unfold wipe
    by_cases e : v = i
    · subst e
      rw [List.getElem?_set_self (by rw [wipe_length]; exact hi)]
    · rw [List.getElem?_set_ne e]
      exact wipe_at ((List.mem_cons.mp h).resolve_left fun z => e z.symm) hi
theorem wipe_not {σ : L2.St} {i : Nat} : ∀ {vs : List Nat}, i ∉ vs → (wipe σ vs)[i]? = σ[i]?
  | [], _ => rfl
  | v :: vs, h => by
    unfold wipe
    rw [List.getElem?_set_ne (fun e => h (by rw [e]; exact List.mem_cons_self))]
    exact wipe_not fun z => h (List.mem_cons_of_mem _ z)
theorem wipe_ext {σ σ' : L2.St} {vs : List Nat} (hl : σ.length = σ'.length) (h : ∀ i, i ∉ vs → σ[i]? = σ'[i]?) : wipe σ vs = wipe σ' vs := by
  apply List.ext_getElem?
  intro i
  by_cases hi : i ∈ vs
  · by_cases hlt : i < σ.length
    · rw [wipe_at hi hlt, wipe_at hi (by rw [← hl]; exact hlt)]
    · rw [List.getElem?_eq_none (by rw [wipe_length]; omega), List.getElem?_eq_none (by rw [wipe_length]; omega)]
  · rw [wipe_not hi, wipe_not hi, h i hi]
theorem wipe_set {σ : L2.St} {vs : List Nat} {i : Nat} {x : Option V} (h : i ∈ vs) : wipe (σ.set i x) vs = wipe σ vs :=
  wipe_ext (by simp) fun j hj => List.getElem?_set_ne fun e => hj (by rw [← e]; exact h)
theorem wipe_wipe {σ : L2.St} {vs : List Nat} : wipe (wipe σ vs) vs = wipe σ vs := wipe_ext (wipe_length _ _) fun _ hj => wipe_not hj
def DG (X : Cx) (tg : Expr) (b : D → En → Option En) (ks : List Nat) : Prop :=
  ∃ t : TG, PG X tg t ∧ ∀ H0 g σ env v d env', Same g.F g.H → EnvOk H0 g σ env → Rp g.F g.p v d → b d env = some env' → ∀ Q : L2.St → Hp → Prop,
    (∀ σ', EnvOk H0 g σ' env' → (∀ vs, (∀ k ∈ ks, k ∈ vs) → wipe σ' vs = wipe σ vs) → Q σ' g.H) → t v σ g.H Q
def DGs (X : Cx) (tgs : List Expr) (b : List D → En → Option En) (ks : List Nat) : Prop :=
  ∃ t : TGs, PGs X tgs t ∧ ∀ H0 g σ env vs ds env', Same g.F g.H → EnvOk H0 g σ env → RpA g.F g.p vs ds → b ds env = some env' → ∀ Q : L2.St → Hp → Prop,
    (∀ σ', EnvOk H0 g σ' env' → (∀ vs, (∀ k ∈ ks, k ∈ vs) → wipe σ' vs = wipe σ vs) → Q σ' g.H) → t vs σ g.H Q
def bName (i : Nat) : D → En → Option En := fun d env => some (env.set i (.f d))
def bNil : List D → En → Option En
  | [], env => some env
  | _, _ => none
def bCons (b : D → En → Option En) (r : List D → En → Option En) : List D → En → Option En
  | d :: ds, env => (b d env).bind (r ds)
  | [], _ => none
def bTup (b : List D → En → Option En) : D → En → Option En
  | .tup ds, env => b ds env
  | _, _ => none
section
variable {X : Cx} {pos : Pos}
theorem dg_name {x : Str} (i : Nat) (hN : X.N.Nodup) (hi : X.N[i]? = some x) (hx : L2.Loc X.env.scope x) (hf : X.fn x = true ∨ X.env.scope.names.lookup x = some .local := by first | exact .inl rfl | exact .inr rfl | assumption) : DG X (.Name x pos) (bName i) [i] :=
  ⟨_, pg_name hN hi hx hf, fun H0 g σ env v d env' sm hE r e Q k => by
    cases e
    exact k _ (hE.set i r) fun vs h => wipe_set (h i (by simp))⟩
theorem dgs_nil : DGs X [] bNil [] := ⟨_, pgs_nil, fun H0 g σ env vs ds env' sm hE r e Q k => by
  cases r with
  | nil => cases e; exact ⟨rfl, k σ hE fun _ _ => rfl⟩
  | cons _ _ => cases e⟩
theorem dgs_cons {e : Expr} {es : List Expr} {b : D → En → Option En} {r : List D → En → Option En} {ks js : List Nat} (h1 : DG X e b ks) (h2 : DGs X es r js)
    (hs : (assignEach (e :: es) X.env).map (·.2) = assign e X.env :: (assignEach es X.env).map (·.2) := by rfl) : DGs X (e :: es) (bCons b r) (ks ++ js) := by
  obtain ⟨t, p, k⟩ := h1
  obtain ⟨t2, p2, k2⟩ := h2
  refine ⟨_, pgs_cons p p2 hs, fun H0 g σ env vs ds env' sm hE ra eq Q q => ?_⟩
  cases ra with
  | nil => cases eq
  | @cons v d vs ds rv rs =>
    have eq : (b d env).bind (r ds) = some env' := eq
    cases e1 : b d env with
    | none => rw [e1] at eq; cases eq
    | some env1 =>
      rw [e1] at eq
      refine ⟨v, vs, rfl, k H0 g σ env v d env1 sm hE rv e1 _ fun σ1 hE1 w1 => ?_⟩
      exact k2 H0 g σ1 env1 vs ds env' sm hE1 rs eq Q fun σ2 hE2 w2 => q σ2 hE2 fun us hu => (w2 us fun k hk => hu k (List.mem_append_right _ hk)).trans (w1 us fun k hk => hu k (List.mem_append_left _ hk))
theorem dg_tup {es : List Expr} {k : Nat} {b : List D → En → Option En} {ks : List Nat} {n : Nat} (hc : X.calm = true) (h : DGs X es b ks)
    (hlen : ∀ ds env env', b ds env = some env' → ds.length = n) (hn : (assignEach es X.env).length = n := by rfl) (hst : (assignEach es X.env).findIdx? (·.1) = none := by rfl) : DG X (.Tuple es k pos) (bTup b) ks := by
  obtain ⟨t, p, q⟩ := h
  refine ⟨_, pg_tup hc p hn hst, fun H0 g σ env v d env' sm hE r e Q k => ?_⟩
  cases r with
  | tup h1 t1 => exact ⟨_, _, rfl, SqT.of (sm _ _ h1), by rw [t1.length]; exact hlen _ _ _ e, q H0 g σ env _ _ env' sm hE t1 e Q k⟩
  | _ => cases e
end

/-! ### for -/
def forD (body : En → M Fl) (b : D → En → Option En) : List D → En → M Fl
  | [], env => M.ret (.nx env)
  | d :: ds, env => match b d env with
    | none => M.bad
    | some env1 => M.bind (body env1) fun fl => match fl with
      | .nx e => forD body b ds e
      | .ct e => forD body b ds e
      | .bk e => M.ret (.nx e)
      | o => M.ret o
def sFor (it : En → M (List D)) (b : D → En → Option En) (body : En → M Fl) : En → M Fl := fun env => liftS (it env) env fun ds => forD body b ds env
section
variable {m : Bool} {X : Cx} {W : WX} {ca : Ct} {pos : Pos}
theorem ds_for {tg iter : Expr} {body : List Stmt} {it : En → M (List D)} {b : D → En → Option En} {ks : List Nat} {f : En → M Fl} (hp : PassesOwn (model X.prog X.w) X.A X.env X.xe) (hc : X.calm = true) (hi : DI true m X W ca iter it) (hg : DG X tg b ks) (hb : DSs m X W ca body f)
    (hs : ∀ x, foldedSetIterable iter X.env x = pure x := by intro _; rfl) : DS m X W ca (.For tg iter body [] pos) (sFor it b f) := by
  obtain ⟨wi, pi, ki⟩ := hi
  obtain ⟨tg', pg, kg⟩ := hg
  obtain ⟨tb, pb, kb⟩ := hb
  refine ⟨_, ps_for hp hc (pi tg) pg pb hs, fun g0 g S σ env e0 hS hE D h => ?_⟩
  refine ki g0.H g S σ env hS hE _ (sat_mono (stE e0 hE h) (fun ds S1 z g1 J e1 s1 ok => ?_) fun _ _ q => q)
  have z := z g1 e1
  refine ⟨fun i n σ' H' => n = ds.length - i ∧ i ≤ ds.length ∧ ∃ g' S' env', H' = g'.H ∧ Ext m g0 g' ∧ Mo m g1 g' ∧ SOk ca g' S' ∧ EnvOk g0.H g' σ' env' ∧ (forD f b (ds.drop i) env' S').sat (okS m ca W g0 g' D) noX,
    ⟨ds.length, by simp, Nat.zero_le _, g1, S1, env, rfl, e0.trans e1, Mo.refl _, s1, hE.ext e1, z⟩, ?_⟩
  rintro i n σ' H' ⟨rfl, hi, g', S', env', rfl, e2, m2, s2, hE2, k⟩
  obtain ⟨okg, oks⟩ := ok g' S' m2 s2 i
  by_cases hlt : i < ds.length
  · have hd : ds.drop i = ds[i] :: ds.drop (i + 1) := List.drop_eq_getElem_cons hlt
    rw [hd] at k
    obtain ⟨go, yl⟩ := okg ds[i] (List.getElem?_eq_getElem hlt)
    refine .inr ⟨go, fun σ'' H'' => ∃ g'' S'' env'', H'' = g''.H ∧ Ext m g0 g'' ∧ Mo m g1 g'' ∧ SOk ca g'' S'' ∧ EnvOk g0.H g'' σ'' env'' ∧ (forD f b (ds.drop (i + 1)) env'' S'').sat (okS m ca W g0 g'' D) noX, fun σ'' H'' w => ⟨ds.length - (i + 1), by omega, rfl, hlt, w⟩, fun x H'' y => ?_⟩
    obtain ⟨rfl, rx⟩ := yl x H'' y
    unfold forD at k
    cases eb : b ds[i] env' with
    | none => rw [eb] at k; exact k.elim
    | some env1 =>
      rw [eb] at k
      refine kg g0.H g' σ' env' x _ env1 s2.same hE2 rx eb _ fun σ1 hE1 _ => ?_
      refine kb g0 g' S' σ1 env1 e2 s2 hE1 _ (sat_mono (sat_bind k) (fun fl S3 q => ?_) fun _ _ q => q)
      have nxt : ∀ {e : En}, (forD f b (ds.drop (i + 1)) e S3).sat (okS m ca W g0 g' D) noX → ∀ g3 σ3, Ext m g0 g3 → Mo m g' g3 → SOk ca g3 S3 → EnvOk g0.H g3 σ3 e →
          ∃ g'' S'' env'', g3.H = g''.H ∧ Ext m g0 g'' ∧ Mo m g1 g'' ∧ SOk ca g'' S'' ∧ EnvOk g0.H g'' σ3 env'' ∧ (forD f b (ds.drop (i + 1)) env'' S'').sat (okS m ca W g0 g'' D) noX := fun {e} q g3 σ3 a b c d =>
        ⟨g3, S3, e, rfl, a, m2.trans b, c, d, sat_mono q (fun _ _ q => q.mono b) fun _ _ q => q⟩
      cases fl with
      | nx e => exact fun g3 σ3 a b c d => nxt q g3 σ3 a b c d
      | ct e => exact fun g3 σ3 a b c d => nxt q g3 σ3 a b c d
      | bk e => exact q
      | rt d => exact q
      | rtO d => exact q
      | ex c e => exact q
  · have hi' : i = ds.length := by omega
    subst hi'
    rw [List.drop_length] at k
    exact .inl ⟨oks (Nat.le_refl _), (show okS m ca W g0 g' D (.nx env') S' from k) g' σ' e2 (Mo.refl _) s2 hE2⟩
/-! ### while -/
def whileD (c : En → M Bool) (body : En → M Fl) : Nat → En → M Fl
  | 0, _ => M.bad
  | n + 1, env => liftS (c env) env fun b => if b = true then M.bind (body env) fun fl => match fl with
      | .nx e => whileD c body n e
      | .ct e => whileD c body n e
      | .bk e => M.ret (.nx e)
      | o => M.ret o
    else M.ret (.nx env)
theorem ds_while {c : Expr} {body : List Stmt} {fc : En → M Bool} {f : En → M Fl} (n : Nat) (hp : PassesOwn (model X.prog X.w) X.A X.env X.xe) (hc : DT m X W ca c fc) (hb : DSs m X W ca body f) : DS m X W ca (.While c body [] pos) (whileD fc f n) := by
  obtain ⟨tc, pc, kc⟩ := hc
  obtain ⟨tb, pb, kb⟩ := hb
  refine ⟨_, ps_while hp pc pb, fun g0 g S σ env e0 hS hE D h => ?_⟩
  refine ⟨fun n σ' H' => ∃ g' S' env', H' = g'.H ∧ Ext m g0 g' ∧ SOk ca g' S' ∧ EnvOk g0.H g' σ' env' ∧ (whileD fc f n env' S').sat (okS m ca W g0 g' D) noX, ⟨n, g, S, env, rfl, e0, hS, hE, h⟩, ?_⟩
  rintro n σ' H' ⟨g', S', env', rfl, e1, s1, hE1, k⟩
  cases n with
  | zero => exact k.elim
  | succ n =>
    unfold whileD at k
    refine kc g0.H g' S' σ' env' s1 hE1 _ (sat_mono (stE e1 hE1 k) (fun b S2 q g2 e2 s2 => ?_) fun _ _ q => q)
    have q := q g2 e2
    cases b with
    | false => exact (show okS m ca W g0 g2 D (.nx env') S2 from q) g2 σ' (e1.trans e2) (Mo.refl _) s2 (hE1.ext e2)
    | true =>
      rw [if_pos rfl] at q
      show ∃ N : L2.St → Hp → Prop, _ ∧ _
      refine ⟨fun σ'' H'' => ∃ g' S' env', H'' = g'.H ∧ Ext m g0 g' ∧ SOk ca g' S' ∧ EnvOk g0.H g' σ'' env' ∧ (whileD fc f n env' S').sat (okS m ca W g0 g' D) noX, fun σ'' H'' w => ⟨n, by omega, w⟩, ?_⟩
      refine kb g0 g2 S2 σ' env' (e1.trans e2) s2 (hE1.ext e2) _ (sat_mono (sat_bind q) (fun fl S3 q => ?_) fun _ _ q => q)
      cases fl with
      | nx e => exact fun g3 σ3 a b c d => ⟨g3, S3, e, rfl, a, c, d, sat_mono q (fun _ _ q => q.mono b) fun _ _ q => q⟩
      | ct e => exact fun g3 σ3 a b c d => ⟨g3, S3, e, rfl, a, c, d, sat_mono q (fun _ _ q => q.mono b) fun _ _ q => q⟩
      | bk e => exact q
      | rt d => exact q
      | rtO d => exact q
      | ex c e => exact q

theorem FsOk.kp {g g' : G} {n : Nat} (sm : Same g.F g'.F) (ob : PiLe g.p g'.p) (hp : ∀ l a, g.p l = some a → g'.p l = some a) (hH : ∀ l a o, g.p l = some a → g.H a = some o → g'.H a = some o) :
    ∀ {vs : List (Str × V)} {ws : List (Str × FV)}, FsOk g n vs ws → FsOk g' n vs ws
  | _, _, .nil => .nil
  | _, _, .cons (w := w) h t z => .cons (by
      cases w with
      | f d => exact Rp.mono sm ob h
      | o xs => obtain ⟨l, vs, h1, h2, h3, h4⟩ := h; exact ⟨l, vs, h1, hp _ _ h2, hH _ _ _ h2 h3, RpA.mono sm ob h4⟩
      | k xs => obtain ⟨l, vs, h1, h2, h3, h4⟩ := h; exact ⟨l, vs, h1, hp _ _ h2, hH _ _ _ h2 h3, RpK.mono sm ob h4⟩) (FsOk.kp sm ob hp hH t) z
/-- what is nobody's, or the frame's own, is written -/
def G.wr (g : G) (q : Addr) (u : HO) : G := ⟨g.F, upd g.H q u, g.p⟩
theorem sok_wr {g : G} {S : Store} (hS : SOk ca g S) {q : Addr} {o u : HO} (hq : g.H q = some o) (hz : ∀ ob w, o ≠ .frz ob w := by intro _ _ h; cases h) (hF : g.F q = none) (hp : ∀ l, g.p l ≠ some q) : SOk ca (g.wr q u) S := by
  have nq : ∀ l a, g.p l = some a → a ≠ q := fun l a h z => hp l (by rw [← z]; exact h)
  have at_ : ∀ l a o, g.p l = some a → g.H a = some o → (g.wr q u).H a = some o := fun l a o h1 h2 => by show upd g.H q u a = _; rw [upd_ne (nq l a h1)]; exact h2
  refine ⟨fun b x e => ?_, hS.inj, hS.out, fun l a h => ?_, fun n ob h hc => ?_, fun a ns h => (hS.sc a ns h).keep fun b ob w e => ?_, hS.lt, hS.lf, fun n ob h hc => (hS.raw n ob h hc).imp fun a h => ⟨h.1, RawAt.mv (g := g) (g' := g.wr q u) (Same.refl _) (PiLe.refl _) (fun o x => at_ _ _ _ h.1 x) h.2⟩⟩
  · have : b ≠ q := fun z => by
      subst z
      have e : g.F b = some x := e
      rw [hF] at e; cases e
    show upd g.H q u b = _
    rw [upd_ne this]; exact hS.same _ _ e
  · obtain ⟨o, h1⟩ := hS.live l a h
    exact ⟨o, at_ l a o h h1⟩
  · obtain ⟨a, dx, fs, h1, h2, h3⟩ := hS.obs n ob h hc
    exact ⟨a, dx, fs, h1, at_ _ _ _ h1 h2, FsOk.kp (g := g) (g' := g.wr q u) (Same.refl _) (PiLe.refl _) (fun _ _ h => h) at_ h3⟩
  · have : b ≠ q := fun z => by
      subst z
      rw [hq] at e; cases e
      exact hz _ _ rfl
    show upd g.H q u b = _
    rw [upd_ne this]; exact e
theorem mo_wr {g : G} {q : Addr} {o u : HO} (hq : g.H q = some o) (hz : ∀ x y, o ≠ .frz x y) (hp : ∀ l, g.p l ≠ some q) : Mo m g (g.wr q u) :=
  ⟨Same.refl _, PiLe.refl _, fun b h => by
    have h : upd g.H q u b = none := h
    by_cases z : b = q
    · subst z; rw [upd_same] at h; cases h
    · rw [upd_ne z] at h; exact h, fun _ => ⟨rfl, fun l a o h1 h2 => by show upd g.H q u a = _; rw [upd_ne (fun z => hp l (by rw [← z]; exact h1))]; exact h2⟩, fun b x y h => by
    have : b ≠ q := fun z => by subst z; rw [hq] at h; cases h; exact hz _ _ rfl
    show upd g.H q u b = _
    rw [upd_ne this]; exact h⟩
/-- .. from an entry at which it was not there -/
theorem ext_wr {g0 g : G} (e : Ext m g0 g) {q : Addr} {u : HO} (n : g0.H q = none) : Ext m g0 (g.wr q u) :=
  ⟨e.same, fun b o h f k => by
    obtain ⟨h1, h2, h3⟩ := e.stay b o h f k
    exact ⟨by show upd g.H q u b = _; rw [upd_ne (ne_of_none h n)]; exact h1, h2, h3⟩, e.obs, fun b h => by
    have h : upd g.H q u b = none := h
    by_cases z : b = q
    · subst z; exact n
    · rw [upd_ne z] at h; exact e.dom b h, fun hm => by
    obtain ⟨h1, h2⟩ := e.pure hm
    exact ⟨h1, fun l a o h3 h4 => by show upd g.H q u a = _; rw [upd_ne (ne_of_none h4 n)]; exact h2 l a o h3 h4⟩, fun b x y h => by
    have h1 := e.frz b x y h
    show upd g.H q u b = _
    rw [upd_ne (ne_of_none h n)]; exact h1⟩
/-! ### a list comprehension -/
def wipeE (env : En) : List Nat → En
  | [] => env
  | v :: vs => (wipeE env vs).set v .u
theorem EnvOk.wipe {H0 : Hp} {g : G} {σ : L2.St} {env : En} (h : EnvOk H0 g σ env) : ∀ vs : List Nat, EnvOk H0 g (wipe σ vs) (wipeE env vs)
  | [] => h
  | v :: vs => by
    have ih := EnvOk.wipe h vs
    unfold L2.wipe wipeE
    refine ⟨by simp [ih.len], fun j x y a b => ?_, fun j k x y y' ne a b c d' o o' => ?_⟩
    · by_cases hj : v = j
      · subst hj
        have hi : v < (wipeE env vs).length := by
          have := (List.getElem?_eq_some_iff.mp b).1
          simpa using this
        rw [List.getElem?_set_self hi] at b
        cases b
        trivial
      · rw [List.getElem?_set_ne hj] at a b
        exact ih.at_ j x y a b
    · have nj : v ≠ j := fun z => by
        subst z
        have hi : v < (wipeE env vs).length := by
          have := (List.getElem?_eq_some_iff.mp c).1
          simpa using this
        rw [List.getElem?_set_self hi] at c
        cases c; cases o
      have nk : v ≠ k := fun z => by
        subst z
        have hi : v < (wipeE env vs).length := by
          have := (List.getElem?_eq_some_iff.mp d').1
          simpa using this
        rw [List.getElem?_set_self hi] at d'
        cases d'; cases o'
      rw [List.getElem?_set_ne nj] at a c
      rw [List.getElem?_set_ne nk] at b d'
      exact ih.apart j k x y y' ne a b c d' o o'
/-- what must not raise -/
def quiet {α : Type} (c : M α) : M α := fun S => match c S with
  | .ok a S' => .ok a S'
  | _ => .bad
theorem sat_quiet {α : Type} {c : M α} {S : Store} {P : α → Store → Prop} {E E' : Str → Store → Prop} (h : (quiet c S).sat P E) : (c S).sat P E' := by
  unfold quiet at h
  cases e : c S with
  | ok a S' => rw [e] at h; exact h
  | exc c S' => rw [e] at h; exact h.elim
  | bad => rw [e] at h; exact h.elim
def lcD (b : D → En → Option En) (t : En → M Bool) (elt : En → M D) (env : En) : List D → List D → M (List D)
  | [], acc => M.ret acc
  | d :: ds, acc => match b d env with
    | none => M.bad
    | some env1 => M.bind (quiet (t env1)) fun k => if k = true then M.bind (quiet (elt env1)) fun y => if acc.length < lim then lcD b t elt env ds (acc ++ [y]) else M.bad else lcD b t elt env ds acc
def oLc (it : En → M (List D)) (b : D → En → Option En) (t : En → M Bool) (elt : En → M D) (vs : List Nat) : En → M (List D) := fun env => M.bind (it env) fun ds => lcD b t elt (wipeE env vs) ds []
abbrev W0 : WX := fun _ _ _ _ => False
abbrev Blk (X : Cx) (scope : Scope) (P : Cx → Prop) : Prop := ∀ (s : Shared) (H : Hp) (C : Addr) (cl : List (Str × Addr)) (fp : List Addr), P (X.blk s H scope (compEnvC scope cl C X.env) fp)
def DTs (m : Bool) (X : Cx) (W : WX) (ca : Ct) (es : List Expr) (f : En → M Bool) : Prop :=
  ∃ t, PTs X es t ∧ ∀ H0 g S σ env, SOk ca g S → EnvOk H0 g σ env → ∀ Q : Bool → Hp → Prop, (f env S).sat (okT m ca g Q) (exE m ca W g σ) → t σ g.H Q
def tYesD : En → M Bool := fun _ => M.ret true
theorem dts_nil : DTs m X W ca [] tYesD := ⟨_, pts_nil, fun H0 g S σ env hS hE Q h => h g (Ext.refl _) hS⟩
theorem dts_one {c : Expr} {f : En → M Bool} (h : DT m X W ca c f) : DTs m X W ca [c] f := let ⟨_, p, k⟩ := h; ⟨_, pts_one p, k⟩
/-- a reading that says what it gives -/
abbrev SpE (m : Bool) (W : WX) (ca : Ct) (f : En → M D) (t : TE) : Prop := ∀ H0 g S σ env, SOk ca g S → EnvOk H0 g σ env → ∀ Q : VK, (f env S).sat (okE m ca g Q) (exE m ca W g σ) → t σ g.H Q
abbrev SpT (m : Bool) (W : WX) (ca : Ct) (f : En → M Bool) (t : TT) : Prop := ∀ H0 g S σ env, SOk ca g S → EnvOk H0 g σ env → ∀ Q : Bool → Hp → Prop, (f env S).sat (okT m ca g Q) (exE m ca W g σ) → t σ g.H Q
abbrev SpG (b : D → En → Option En) (ks : List Nat) (t : TG) : Prop := ∀ H0 g σ env v d env', Same g.F g.H → EnvOk H0 g σ env → Rp g.F g.p v d → b d env = some env' → ∀ Q : L2.St → Hp → Prop,
    (∀ σ', EnvOk H0 g σ' env' → (∀ vs, (∀ k ∈ ks, k ∈ vs) → wipe σ' vs = wipe σ vs) → Q σ' g.H) → t v σ g.H Q
/-- one reading for all blocks -/
theorem allE {scope : Scope} {elt : Expr} {f : En → M D} (h : Blk X scope fun Y => DE m Y W0 ca elt f) : ∃ te : TE, (Blk X scope fun Y => PE Y elt te) ∧ SpE m W0 ca f te :=
  ⟨fun σ H Q => ∀ t : TE, SpE m W0 ca f t → t σ H Q, fun s H C cl fp => by
    obtain ⟨t, p, k⟩ := h s H C cl fp
    exact ⟨fun pins s' σ H' Q I q => p.run pins s' σ H' Q I (q t k)⟩, fun H0 g S σ env hS hE Q q t k => k H0 g S σ env hS hE Q q⟩
theorem allT {scope : Scope} {es : List Expr} {f : En → M Bool} (h : Blk X scope fun Y => DTs m Y W0 ca es f) : ∃ te : TT, (Blk X scope fun Y => PTs Y es te) ∧ SpT m W0 ca f te :=
  ⟨fun σ H Q => ∀ t : TT, SpT m W0 ca f t → t σ H Q, fun s H C cl fp => by
    obtain ⟨t, p, k⟩ := h s H C cl fp
    exact ⟨fun pins s' σ H' Q I q => p.run pins s' σ H' Q I (q t k)⟩, fun H0 g S σ env hS hE Q q t k => k H0 g S σ env hS hE Q q⟩
theorem allG {scope : Scope} {tg : Expr} {b : D → En → Option En} {ks : List Nat} (h : Blk X scope fun Y => DG Y tg b ks) : ∃ t : TG, (Blk X scope fun Y => PG Y tg t) ∧ SpG b ks t :=
  ⟨fun v σ H Q => ∀ t : TG, SpG b ks t → t v σ H Q, fun s H C cl fp => by
    obtain ⟨t, p, k⟩ := h s H C cl fp
    exact ⟨fun pins s' σ H' v u Q I r q => p.run pins s' σ H' v u Q I r (q t k)⟩, fun H0 g σ env v d env' sm hE r e Q q t k => k H0 g σ env v d env' sm hE r e Q q⟩
theorem lc_read {wi : TI} {tg : TG} {tt : TT} {te : TE} {vs ks : List Nat} {it : En → M (List D)} {b : D → En → Option En} {ft : En → M Bool} {fe : En → M D}
    (ki : ∀ H0 g S σ env, SOk ca g S → EnvOk H0 g σ env → ∀ R : It → Hp → Prop, (it env S).sat (fun ds S' => ∀ g' J, Ext m g g' → SOk ca g' S' → ItOk false m ca g' J ds → R J g'.H) (exE m ca W g σ) → wi σ g.H R)
    (kg : SpG b ks tg) (kt : SpT m W0 ca ft tt) (ke : SpE m W0 ca fe te) (hk : ∀ k ∈ ks, k ∈ vs) :
    ∀ H0 g S σ env, SOk ca g S → EnvOk H0 g σ env → ∀ Q : VK, (oLc it b ft fe vs env S).sat (okO m ca g Q) (exE m ca W g σ) → tLc wi tg tt te vs σ g.H Q := fun H0 g S σ env hS hE Q h => by
  refine ki H0 g S σ env hS hE _ (sat_mono (seqO h) (fun ds S1 z g1 J e1 s1 ok => ?_) fun _ _ q => q)
  have z := z g1 e1
  intro L hL
  -- the new list is nobody's
  refine ⟨fun i n H' => n = ds.length - i ∧ i ≤ ds.length ∧ ∃ g' S' acc ac, H' = g'.H ∧ Ext m g1 g' ∧ SOk ca g' S' ∧ g'.H L = some (.lst ac) ∧ g'.F L = none ∧ (∀ l, g'.p l ≠ some L) ∧ RpA g'.F g'.p ac acc ∧ (lcD b ft fe (wipeE env vs) (ds.drop i) acc S').sat (okO m ca g1 Q) (exE m ca W g1 σ),
    ⟨ds.length, by simp, Nat.zero_le _, g1.nw L (.lst []), S1, [], [], rfl, ext_nw s1 hL _, sok_nw s1 hL _, upd_same, s1.free hL, s1.nop hL, .nil, z⟩, ?_⟩
  rintro i n H' ⟨rfl, hi, g', S', acc, ac, rfl, e2, s2, hl1, hl2, hl3, ra, k⟩
  obtain ⟨okg, oks⟩ := ok g' S' e2 s2 i
  by_cases hlt : i < ds.length
  · have hd : ds.drop i = ds[i] :: ds.drop (i + 1) := List.drop_eq_getElem_cons hlt
    rw [hd] at k
    obtain ⟨go, yl⟩ := okg ds[i] (List.getElem?_eq_getElem hlt)
    refine .inr ⟨go, fun H'' => ∃ g'' S' acc ac, H'' = g''.H ∧ Ext m g1 g'' ∧ SOk ca g'' S' ∧ g''.H L = some (.lst ac) ∧ g''.F L = none ∧ (∀ l, g''.p l ≠ some L) ∧ RpA g''.F g''.p ac acc ∧ (lcD b ft fe (wipeE env vs) (ds.drop (i + 1)) acc S').sat (okO m ca g1 Q) (exE m ca W g1 σ),
      fun H'' w => ⟨ds.length - (i + 1), by omega, rfl, hlt, w⟩, fun x H'' y => ?_⟩
    obtain ⟨rfl, rx⟩ := yl x H'' y
    unfold lcD at k
    have hE2 : EnvOk H0 g' (wipe σ vs) (wipeE env vs) := (((hE.ext e1).ext e2).wipe vs)
    cases eb : b ds[i] (wipeE env vs) with
    | none => rw [eb] at k; exact k.elim
    | some env1 =>
      rw [eb] at k
      refine kg H0 g' _ _ x _ env1 s2.same hE2 rx eb _ fun σ1 hE1 hw => ⟨(hw vs hk).trans wipe_wipe, ?_⟩
      refine kt H0 g' S' σ1 env1 s2 hE1 _ (sat_mono (sat_quiet (E' := exE m ca W0 g' σ1) (sat_bind k)) (fun kb S3 q g3 e3 s3 => ?_) fun _ _ q => q)
      obtain ⟨a3, f3, p3⟩ := e3.stay L _ hl1 hl2 hl3
      cases kb with
      | false => exact ⟨g3, S3, acc, ac, rfl, e2.trans e3, s3, a3, f3, p3, e3.rpA ra, q⟩
      | true =>
        rw [if_pos rfl] at q ⊢
        refine ke H0 g3 S3 σ1 env1 s3 (hE1.ext e3) _ (sat_mono (sat_quiet (E' := exE m ca W0 g3 σ1) (sat_bind q)) (fun y S4 q g4 v e4 s4 r4 => ?_) fun _ _ q => q)
        obtain ⟨a4, f4, p4⟩ := e4.stay L _ a3 f3 p3
        by_cases c : acc.length < lim
        · rw [if_pos c] at q
          have ra4 := e4.rpA (e3.rpA ra)
          exact ⟨ac, a4, by rw [ra4.length]; exact lim_lt' c, g4.wr L (.lst (ac ++ [v])), S4, acc ++ [y], ac ++ [v], rfl, ext_wr ((e2.trans e3).trans e4) hL, sok_wr s4 a4 (hF := f4) (hp := p4), upd_same, f4, p4, ra4.append (.one r4), q⟩
        · rw [if_neg c] at q; exact q.elim
  · have hi' : i = ds.length := by omega
    subst hi'
    rw [List.drop_length] at k
    exact .inl ⟨oks (Nat.le_refl _), (show okO m ca g1 Q acc S' from k) g' L ac e2 s2 hL hl1 hl2 hl3 ra⟩
theorem do_lc {elt tg iter : Expr} {ifs : List Expr} {scope : Scope} {own : List (Str × Nat)} {it : En → M (List D)} {b : D → En → Option En} {ks : List Nat} {ft : En → M Bool} {fe : En → M D} (hc : X.calm = true) (hN : X.N.Nodup)
    (hi : DI false m X W ca iter it) (ok : BlkOk X.N X.env.scope scope own) (hg : Blk X scope fun Y => DG Y tg b ks) (ht : Blk X scope fun Y => DTs m Y W0 ca ifs ft) (he : Blk X scope fun Y => DE m Y W0 ca elt fe) (hk : ∀ k ∈ ks, k ∈ own.map (·.2) := by decide)
    (hs : ∀ x, foldedSetIterable iter X.env x = pure x := by intro _; rfl) : DO m X W ca (.ListComp elt [⟨tg, iter, ifs, 0⟩] scope pos) (oLc it b ft fe (own.map (·.2))) := by
  obtain ⟨wi, pi, ki⟩ := hi
  obtain ⟨t1, p1, k1⟩ := allG hg
  obtain ⟨t2, p2, k2⟩ := allT ht
  obtain ⟨t3, p3, k3⟩ := allE he
  exact ⟨_, pe_lc hc hN (pi tg) ok p1 p2 p3 hs, lc_read ki k1 k2 k3 hk⟩
theorem ds_setLc {elt tg iter : Expr} {ifs : List Expr} {scope : Scope} {own : List (Str × Nat)} {it : En → M (List D)} {b : D → En → Option En} {ks : List Nat} {ft : En → M Bool} {fe : En → M D} {y : Str} {py spos : Pos} (i : Nat) (hc : X.calm = true) (hN : X.N.Nodup)
    (hy : X.N[i]? = some y) (hyl : X.env.scope.names.lookup y = some .local) (hsw : swapsWith (.ListComp elt [⟨tg, iter, ifs, 0⟩] scope pos) (some (.Name y py)) spos.line X.env = pure true)
    (hi : DI false m X W ca iter it) (ok : BlkOk X.N X.env.scope scope own) (hg : Blk X scope fun Y => DG Y tg b ks) (ht : Blk X scope fun Y => DTs m Y W0 ca ifs ft) (he : Blk X scope fun Y => DE m Y W0 ca elt fe) (hk : ∀ k ∈ ks, k ∈ own.map (·.2) := by decide)
    (hs : ∀ x, foldedSetIterable iter X.env x = pure x := by intro _; rfl) : DS m X W ca (.Assign [.Name y py] (.ListComp elt [⟨tg, iter, ifs, 0⟩] scope pos) spos) (sSetO i (oLc it b ft fe (own.map (·.2)))) := by
  obtain ⟨wi, pi, ki⟩ := hi
  obtain ⟨t1, p1, k1⟩ := allG hg
  obtain ⟨t2, p2, k2⟩ := allT ht
  obtain ⟨t3, p3, k3⟩ := allE he
  exact ⟨_, ps_setLc hc hN hy hyl hsw (pi tg) ok p1 p2 p3 hs, setO_ok (lc_read ki k1 k2 k3 hk)⟩
end
end Dn

namespace Dn
open PySem L2 PyProof.Rows

/-! ### lists of the frame's own, written -/
theorem own_wr {H0 : Hp} {g : G} {σ : L2.St} {env : En} {i : Nat} {w w' : EV} {q : Addr} {o u : HO} (hE : EnvOk H0 g σ env) (ew : env[i]? = some w) (ow : w.own = true) (es : σ[i]? = some (some (.ref q))) (hq : g.H q = some o) (hn : OwnAt H0 g q)
    (new : EvOk H0 (g.wr q u) (some (.ref q)) w') : EnvOk H0 (g.wr q u) σ (env.set i w') := by
  have hi : i < env.length := (List.getElem?_eq_some_iff.mp ew).1
  refine ⟨by simp [hE.len], fun j x y a b => ?_, fun j k x y y' ne a b c d' o1 o2 => ?_⟩
  · by_cases hj : i = j
    · subst hj
      rw [List.getElem?_set_self hi] at b
      cases b
      rw [es] at a; cases a
      exact new
    · rw [List.getElem?_set_ne hj] at b
      have z := hE.at_ j x y a b
      have keep : ∀ l, y.own = true → x = some (.ref l) → l ≠ q := fun l oy ex z => by
        subst z; subst ex
        exact hE.apart i j _ w y hj es a ew b ow oy
      cases y with
      | u => trivial
      | x b => exact z
      | f d => exact z
      | o xs =>
        obtain ⟨l, vs, h1, h2, h3, h4⟩ := z
        exact ⟨l, vs, h1, by show upd g.H q u l = _; rw [upd_ne (keep l rfl h1)]; exact h2, h3, ⟨h4.out, h4.nop, h4.new⟩⟩
      | k xs =>
        obtain ⟨l, vs, h1, h2, h3, h4⟩ := z
        exact ⟨l, vs, h1, by show upd g.H q u l = _; rw [upd_ne (keep l rfl h1)]; exact h2, h3, ⟨h4.out, h4.nop, h4.new⟩⟩
  · have p1 : ∃ z, env[j]? = some z ∧ z.own = true := by
      by_cases nj : i = j
      · subst nj; exact ⟨w, ew, ow⟩
      · rw [List.getElem?_set_ne nj] at c; exact ⟨y, c, o1⟩
    have p2 : ∃ z, env[k]? = some z ∧ z.own = true := by
      by_cases nk : i = k
      · subst nk; exact ⟨w, ew, ow⟩
      · rw [List.getElem?_set_ne nk] at d'; exact ⟨y', d', o2⟩
    obtain ⟨z1, e1, w1⟩ := p1
    obtain ⟨z2, e2, w2⟩ := p2
    exact hE.apart j k x z1 z2 ne a b e1 e2 w1 w2
section
variable {m : Bool} {X : Cx} {W : WX} {ca : Ct} {a b e : Expr} {fa fb : En → M D} {pos : Pos}
theorem EnvOk.lst {H0 : Hp} {g : G} {σ : L2.St} {env : En} (h : EnvOk H0 g σ env) {i : Nat} {xs : List D} (e : env[i]? = some (.o xs)) : ∃ q vs, σ[i]? = some (some (.ref q)) ∧ g.H q = some (.lst vs) ∧ RpA g.F g.p vs xs ∧ OwnAt H0 g q := by
  obtain ⟨v, h1, q, vs, rfl, h2, h3, h4⟩ := h.get e
  exact ⟨q, vs, h1, h2, h3, h4⟩
/-- x.append(e) -/
def onO (i : Nat) (k : En → List D → M Fl) : En → M Fl := fun env => match env[i]? with
  | some (.o xs) => k env xs
  | _ => M.bad
theorem onO_get {i : Nat} {k : En → List D → M Fl} {env : En} {S : Store} {P : Fl → Store → Prop} {E : Str → Store → Prop} (h : (onO i k env S).sat P E) : ∃ xs, env[i]? = some (.o xs) ∧ (k env xs S).sat P E := by
  unfold onO at h
  cases e : env[i]? with
  | none => rw [e] at h; exact h.elim
  | some w =>
    rw [e] at h
    cases w with
    | o xs => exact ⟨xs, rfl, h⟩
    | _ => exact h.elim
def sApp (i : Nat) (a : En → M D) : En → M Fl := onO i fun env xs => liftS (a env) env fun d => if xs.length < lim then M.ret (.nx (env.set i (.o (xs ++ [d])))) else M.bad
/-- the list at q in slot i gets the content ys -/
theorem wr_nx {g0 g : G} {S : Store} {σ : L2.St} {env : En} {Z : Ends} {i : Nat} {xs ys : List D} {q : Addr} {vs ws : List V} (e0 : Ext m g0 g) (hS : SOk ca g S) (hE : EnvOk g0.H g σ env) (e : env[i]? = some (.o xs)) (es : σ[i]? = some (some (.ref q))) (hq : g.H q = some (.lst vs)) (hn : OwnAt g0.H g q)
    (r : RpA g.F g.p ws ys) (h : okS m ca W g0 g Z (.nx (env.set i (.o ys))) S) : Z.nx σ (upd g.H q (.lst ws)) :=
  h (g.wr q (.lst ws)) σ (ext_wr e0 hn.new) (mo_wr hq (fun _ _ h => by cases h) hn.nop) (sok_wr hS hq (hF := hn.out) (hp := hn.nop)) (own_wr hE e rfl es hq hn ⟨q, ws, rfl, upd_same, r, ⟨hn.out, hn.nop, hn.new⟩⟩)
theorem ds_app {x : Str} {p0 apos cpos : Pos} (i : Nat) (ha : DE m X W ca a fa) (hN : X.N[i]? = some x := by rfl) (hv : Vis X.env.scope x := by first | exact Or.inl rfl | exact Or.inr (Or.inl rfl) | exact Or.inr (Or.inr rfl)) (hd : (x == ("__debug__" : Str)) = false := by decide)
    (hcd : (x == ("__classdict__" : Str)) = false := by decide) (hbase : attributeBase (.Name x p0) "append" X.env (eval (.Name x p0) X.env) = eval (.Name x p0) X.env := by rfl)
    (hfew : ((backTo cpos (starEach [a] X.env)).all (fun x => !x.1) && (backToKw cpos (keywordEach [] X.env)).all (fun x => x.1.isSome) && decide (([a] : List Expr).length + ([] : List Keyword).length + (if ([] : List Keyword).isEmpty then 0 else 1) < 30)) = true := by rfl)
    (hline : (apos.endLine == cpos.line) = true := by rfl) (hs : starEach [a] X.env = (false, eval a X.env) :: starEach [] X.env := by rfl) (hsw : swapsWith (.Call (.Attribute (.Name x p0) "append" apos) [a] [] cpos) none pos.line X.env = pure false := by rfl) :
    DS m X W ca (.Expr (.Call (.Attribute (.Name x p0) "append" apos) [a] [] cpos) pos) (sApp i fa) := by
  obtain ⟨t, p, k⟩ := ha
  refine ⟨_, ps_expr (pe_bm PySem.F.plainAttrs_list PySem.F.slot_list_append PySem.F.type_list_append mt_append (pe_var hN hv hd hcd) (pa_cons p pa_nil hs) hbase hfew hline hs) hsw, fun g0 g S σ env e0 hS hE D h => ?_⟩
  obtain ⟨xs, e, h⟩ := onO_get h
  obtain ⟨q, vs, es, hq, r, hn⟩ := hE.lst e
  refine ⟨_, es, .inl ⟨rfl, vs, SqL.of hq⟩, ?_⟩
  refine k g0.H g S σ env hS hE _ (sat_mono (stE e0 hE h) (fun d S1 z g1 v e1 s1 r1 => ?_) fun _ _ q => q)
  have z := z g1 e1
  obtain ⟨hn1, hq1⟩ := hn.ext hq e1
  by_cases c : xs.length < lim
  · rw [if_pos c] at z
    have r2 := (e1.rpA r).append (.one r1)
    exact ⟨q, vs, v, rfl, rfl, hq1, by rw [r.length]; exact lim_lt' c, wr_nx (W := W) (e0.trans e1) s1 (hE.ext e1) e es hq1 hn1 r2 z⟩
  · rw [if_neg c] at z; exact z.elim
/-- x.extend(e) -/
def sExt (i : Nat) (a : En → M D) : En → M Fl := onO i fun env xs => liftS (a env) env fun d => match d with
  | .lst ys => if xs.length + ys.length ≤ lim then M.ret (.nx (env.set i (.o (xs ++ ys)))) else M.bad
  | _ => M.bad
theorem ds_ext {x : Str} {p0 apos cpos : Pos} (i : Nat) (ha : DE m X W ca a fa) (hN : X.N[i]? = some x := by rfl) (hv : Vis X.env.scope x := by first | exact Or.inl rfl | exact Or.inr (Or.inl rfl) | exact Or.inr (Or.inr rfl)) (hd : (x == ("__debug__" : Str)) = false := by decide)
    (hcd : (x == ("__classdict__" : Str)) = false := by decide) (hbase : attributeBase (.Name x p0) "extend" X.env (eval (.Name x p0) X.env) = eval (.Name x p0) X.env := by rfl)
    (hfew : ((backTo cpos (starEach [a] X.env)).all (fun x => !x.1) && (backToKw cpos (keywordEach [] X.env)).all (fun x => x.1.isSome) && decide (([a] : List Expr).length + ([] : List Keyword).length + (if ([] : List Keyword).isEmpty then 0 else 1) < 30)) = true := by rfl)
    (hline : (apos.endLine == cpos.line) = true := by rfl) (hs : starEach [a] X.env = (false, eval a X.env) :: starEach [] X.env := by rfl) (hsw : swapsWith (.Call (.Attribute (.Name x p0) "extend" apos) [a] [] cpos) none pos.line X.env = pure false := by rfl) :
    DS m X W ca (.Expr (.Call (.Attribute (.Name x p0) "extend" apos) [a] [] cpos) pos) (sExt i fa) := by
  obtain ⟨t, p, k⟩ := ha
  refine ⟨_, ps_expr (pe_bm PySem.F.plainAttrs_list PySem.F.slot_list_extend PySem.F.type_list_extend mt_extend (pe_var hN hv hd hcd) (pa_cons p pa_nil hs) hbase hfew hline hs) hsw, fun g0 g S σ env e0 hS hE D h => ?_⟩
  obtain ⟨xs, e, h⟩ := onO_get h
  obtain ⟨q, vs, es, hq, r, hn⟩ := hE.lst e
  refine ⟨_, es, .inl ⟨rfl, vs, SqL.of hq⟩, ?_⟩
  refine k g0.H g S σ env hS hE _ (sat_mono (stE e0 hE h) (fun d S1 z g1 v e1 s1 r1 => ?_) fun _ _ q => q)
  have z := z g1 e1
  obtain ⟨hn1, hq1⟩ := hn.ext hq e1
  cases d with
  | lst ys =>
    dsimp only at z
    by_cases c : xs.length + ys.length ≤ lim
    · rw [if_pos c] at z
      obtain ⟨b, ws, rfl, h1, r3⟩ := Rb.lst (m := m) s1 (.inl r1)
      exact ⟨q, b, vs, ws, rfl, rfl, hq1, h1, by rw [r.length, r3.length]; exact lim_lt c, wr_nx (W := W) (e0.trans e1) s1 (hE.ext e1) e es hq1 hn1 ((e1.rpA r).append r3) z⟩
    · rw [if_neg c] at z; exact z.elim
  | _ => exact z.elim
/-- x[j] = e -/
def sSetI (i : Nat) (j a : En → M D) : En → M Fl := onO i fun env xs => liftS (a env) env fun d => liftS (j env) env fun k => match k with
  | .int n => match ixN xs.length n with
    | some p => M.ret (.nx (env.set i (.o (xs.set p d))))
    | none => M.bad
  | _ => M.bad
theorem ds_setI {x : Str} {p0 spos : Pos} (i : Nat) (hj : DE m X W ca b fb) (ha : DE m X W ca a fa) (hN : X.N[i]? = some x := by rfl) (hv : Vis X.env.scope x := by first | exact Or.inl rfl | exact Or.inr (Or.inl rfl) | exact Or.inr (Or.inr rfl)) (hd : (x == ("__debug__" : Str)) = false := by decide)
    (hcd : (x == ("__classdict__" : Str)) = false := by decide) (hsw : swapsWithSole [.Subscript (.Name x p0) b spos] a pos.line X.env = pure false := by rfl) (hsw2 : swappedStores [.Subscript (.Name x p0) b spos] a X.env = pure none := by rfl)
    (h1 : (assignEach [.Subscript (.Name x p0) b spos] X.env).map (·.2) = [assign (.Subscript (.Name x p0) b spos) X.env] := by rfl)
    (has : ∀ v, assign (.Subscript (.Name x p0) b spos) X.env v = (do
      let ov ← holding [v] (eval (.Name x p0) X.env)
      let iv ← holding [v, ov] (eval b X.env)
      standAt spos
      holding [v, ov, iv] (setItem ov iv v)
      release [v, ov, iv] []) := by intro _; rfl) :
    DS m X W ca (.Assign [.Subscript (.Name x p0) b spos] a pos) (sSetI i fb fa) := by
  obtain ⟨t, p, k⟩ := ha
  obtain ⟨t2, p2, k2⟩ := hj
  refine ⟨_, ps_asg p (pg_sub (pe_var hN hv hd hcd) p2 set_list has) hsw hsw2 h1, fun g0 g S σ env e0 hS hE D h => ?_⟩
  obtain ⟨xs, e, h⟩ := onO_get h
  obtain ⟨q, vs, es, hq, r, hn⟩ := hE.lst e
  refine k g0.H g S σ env hS hE _ (sat_mono (stE e0 hE h) (fun d S1 z g1 v e1 s1 r1 => ?_) fun _ _ q => q)
  have z := z g1 e1
  obtain ⟨hn1, hq1⟩ := hn.ext hq e1
  refine ⟨_, es, ?_⟩
  refine k2 g0.H g1 S1 σ env s1 (hE.ext e1) _ (sat_mono (stE (e0.trans e1) (hE.ext e1) z) (fun j S2 z g2 u e2 s2 r2 => ?_) fun _ _ q => q)
  have z := z g2 e2
  obtain ⟨hn2, hq2⟩ := hn1.ext hq1 e2
  cases j with
  | int n =>
    cases r2
    dsimp only at z
    cases e5 : ixN xs.length n with
    | none => rw [e5] at z; exact z.elim
    | some pp =>
      rw [e5] at z
      exact ⟨q, vs, n, pp, rfl, rfl, hq2, by rw [r.length]; exact e5, wr_nx (W := W) ((e0.trans e1).trans e2) s2 ((hE.ext e1).ext e2) e es hq2 hn2 (RpA.set pp (e2.rp r1) (e2.rpA (e1.rpA r))) z⟩
  | _ => exact z.elim
end

/-! ### how exceptions are told of -/
abbrev CXf (P : Program) (w : World) : CXT := L2N.CX P w
abbrev Tk (X : Cx) (W : WX) : Prop := L2N.Takes X W
theorem tkPass {X : Cx} {W : WX} (tk : Tk X W) (σ : L2.St) : PassesAt (CXf X.prog X.w) X σ (WE W σ) := L2N.passAt tk σ
theorem tk0 {X : Cx} : Tk X (fun _ _ _ _ => False) := fun _ _ x => by
  obtain ⟨_, _, _, _, _, _, _, _, _, _, _, _, _, _, _, _, z⟩ := x
  exact z.elim
/-! ### defs -/
inductive Res where
  | f (d : D) | o (xs : List D)
abbrev Fn := List D → M Res
def RpR (g g' : G) (v : V) : Res → Prop
  | .f d => Rp g'.F g'.p v d
  | .o xs => ∃ q vs, v = .ref q ∧ g.H q = none ∧ g'.H q = some (.lst vs) ∧ g'.F q = none ∧ (∀ l, g'.p l ≠ some q) ∧ RpA g'.F g'.p vs xs
def okR (m : Bool) (ca : Ct) (g : G) (Q : VK) : Res → Store → Prop := fun r S' => ∀ g' v, Ext m g g' → SOk ca g' S' → RpR g g' v r → Q v g'.H
def exR (m : Bool) (ca : Ct) (g : G) (E : XK) : Str → Store → Prop := fun c S' => ∀ g', Ext m g g' → SOk ca g' S' → E (.ref (ca c)) none g'.H
/-- what a def promises: f tells what it gives -/
def spOf (m : Bool) (ca : Ct) (n : Nat) (f : Fn) : Sp := fun vs H Q E => vs.length = n ∧ ∃ g S ds, g.H = H ∧ SOk ca g S ∧ RpA g.F g.p vs ds ∧ (f ds S).sat (okR m ca g Q) (exR m ca g E)
def evs (ds : List D) : En := ds.map EV.f
theorem evs_nil : evs [] = [] := rfl
theorem evs_cons (d : D) (ds : List D) : evs (d :: ds) = .f d :: evs ds := rfl
def initE (n : Nat) (ds : List D) : En := evs ds ++ List.replicate (n - ds.length) EV.u
def fnD (n : Nat) (body : En → M Fl) : Fn := fun ds => M.bind (quiet (body (initE n ds))) fun fl => match fl with
  | .nx _ => M.ret (.f .non)
  | .rt d => M.ret (.f d)
  | .rtO xs => M.ret (.o xs)
  | .ex c _ => M.raise c
  | _ => M.bad
theorem env_start {H0 : Hp} {g : G} {N : List Str} {vs : List V} {ds : List D} (r : RpA g.F g.p vs ds) : EnvOk H0 g (L2.start N vs) (initE N.length ds) := by
  have hl := r.length
  refine ⟨by simp [L2.start, initE, evs, hl], fun i v w a b => ?_, fun i j v w w' ne a b c d o o' => ?_⟩
  · unfold L2.start at a
    unfold initE evs at b
    by_cases hi : i < ds.length
    · rw [List.getElem?_append_left (by simpa [hl] using hi), List.getElem?_map] at a
      rw [List.getElem?_append_left (by simpa using hi), List.getElem?_map, List.getElem?_eq_getElem hi] at b
      cases b
      obtain ⟨x, h1, h2⟩ := r.get i (List.getElem?_eq_getElem hi)
      rw [h1] at a; cases a
      exact ⟨x, rfl, h2⟩
    · rw [List.getElem?_append_right (by simpa using hi), List.getElem?_replicate] at b
      split at b
      · cases b; trivial
      · cases b
  · unfold initE evs at c
    by_cases hi : i < ds.length
    · rw [List.getElem?_append_left (by simpa using hi), List.getElem?_map, List.getElem?_eq_getElem hi] at c
      cases c; cases o
    · rw [List.getElem?_append_right (by simpa using hi), List.getElem?_replicate] at c
      split at c
      · cases c; cases o
      · cases c
section
variable {P : Program} {w : World} {K : PySem.W.Frag} {mg : Str → Option Value} {base : Heap}
theorem okD {x qual : Str} {st : Stmt} {f : Addr} {fd : FuncData} {N ps : List Str} {k : Nat} {sp : Sp} (F : Fun K x qual st f fd) (S : FnScope N ps (defScope st)) (len : ∀ vs H Q E, sp vs H Q E → vs.length = ps.length)
    (hb : ∀ (cdv : Value) (A : Around) (outer : List PySem.Env) (s : Shared) (H : Hp) (vs : List V) (Q : VK) (E : XK), Room k (A.deeper (envOfC qual (defScope st) s.heap.objs.size f cdv)) → sp vs H Q E →
      ∃ t, PSs (cxOf (CXf P w) P w K mg base N qual (defScope st) f cdv A outer s H E) (defBody st) t ∧ t { nx := fun _ H' => Q .non H', rt := Q } (L2.start N vs) H) : FnOk P w K mg base (CXf P w) (k + 1) f fd ps sp := by
  obtain ⟨oc, od, kV, doc, pm, an, cdv, ct, osl, rfl, lk, hcd⟩ := F.ex
  exact fn_of lk hcd S len fun A outer s H vs Q E => hb cdv A outer s H vs Q E
abbrev FnD (P : Program) (w : World) (K : PySem.W.Frag) (mg : Str → Option Value) (base : Heap) (k : Nat) (fa : Addr) (fd : FuncData) (ps : List Str) (m : Bool) (ca : Ct) (f : Fn) : Prop := FnOk P w K mg base (CXf P w) k fa fd ps (spOf m ca ps.length f)
theorem fn_mkD {x qual : Str} {st : Stmt} {fa : Addr} {fd : FuncData} {N ps : List Str} {k : Nat} {m : Bool} {ca : Ct} {body : En → M Fl} (F : Fun K x qual st fa fd) (S : FnScope N ps (defScope st))
    (h : ∀ (cdv : Value) (A : Around) (outer : List PySem.Env) (s : Shared) (H : Hp) (E : XK), Room k (A.deeper (envOfC qual (defScope st) s.heap.objs.size fa cdv)) →
      Tk (cxOf (CXf P w) P w K mg base N qual (defScope st) fa cdv A outer s H E) (fun cls d _ H => E cls d H) → PassesOwn (model P w) (A.deeper (envOfC qual (defScope st) s.heap.objs.size fa cdv)) (envOfC qual (defScope st) s.heap.objs.size fa cdv) (cxOf (CXf P w) P w K mg base N qual (defScope st) fa cdv A outer s H E).xe →
      DSs m (cxOf (CXf P w) P w K mg base N qual (defScope st) fa cdv A outer s H E) (fun cls d _ H => E cls d H) ca (defBody st) body) :
    FnD P w K mg base (k + 1) fa fd ps m ca (fnD N.length body) := by
  refine okD F S (fun vs H Q E q => q.1) (fun cdv A outer s H vs Q E hr q => ?_)
  obtain ⟨hl, g, S', ds, rfl, hS, r, k⟩ := q
  obtain ⟨t, p, kk⟩ := h cdv A outer s g.H E hr (L2N.takes_of rfl rfl rfl rfl) (passes_of rfl)
  refine ⟨t, p, kk g g S' _ _ (Ext.refl g) hS (env_start r) _ (sat_mono (sat_quiet (E' := noX) (sat_bind k)) (fun fl S1 q => ?_) fun _ _ q => q)⟩
  · cases fl with
    | nx env => exact fun g' σ' e _ s1 _ => (show okR m ca g Q (.f .non) S1 from q) g' _ e s1 .non
    | rt d => exact fun g' v e _ s1 r => (show okR m ca g Q (.f d) S1 from q) g' v e s1 r
    | rtO xs => exact fun g' l vs e _ s1 h1 h2 h3 h4 h5 => (show okR m ca g Q (.o xs) S1 from q) g' _ e s1 ⟨l, vs, rfl, h1, h2, h3, h4, h5⟩
    | ex c env => exact fun g' σ' e _ s1 _ => (show exR m ca g E c S1 from q) g' e s1
    | bk env => exact q.elim
    | ct env => exact q.elim
theorem FnD.to {k : Nat} {fa : Addr} {fd : FuncData} {ps : List Str} {m : Bool} {ca : Ct} {f f' : Fn} (F : FnD P w K mg base k fa fd ps m ca f) (h : ∀ ds S, f' ds S ≠ .bad → f ds S = f' ds S) : FnD P w K mg base k fa fd ps m ca f' :=
  F.imp fun vs H Q E q => by
    obtain ⟨hl, g, S, ds, e, hS, r, k⟩ := q
    refine ⟨hl, g, S, ds, e, hS, r, ?_⟩
    rw [h ds S (fun z => by rw [z] at k; exact k)]
    exact k
end
end Dn

namespace Dn
open PySem L2 PyProof.Rows

/-! ### calls of defs -/
def Res.d : Res → D
  | .f d => d
  | .o xs => .lst xs
def eFn (f : Fn) (a : En → M (List D)) : En → M D := fun env => M.bind (a env) fun ds => M.bind (f ds) fun r => M.ret r.d
def oFn (f : Fn) (a : En → M (List D)) : En → M (List D) := fun env => M.bind (a env) fun ds => M.bind (f ds) fun r => match r with
  | .o xs => M.ret xs
  | .f _ => M.bad
theorem sok_ret {m : Bool} {ca : Ct} {g g' : G} {S : Store} {v : V} {r : Res} {Q : VK} (e : Ext m g g') (hS : SOk ca g' S) (h : RpR g g' v r) (q : okE m ca g Q r.d S) : Q v g'.H := by
  cases r with
  | f d => exact q g' v e hS h
  | o xs =>
    obtain ⟨l, vs, rfl, h1, h2, h3, h4, h5⟩ := h
    exact q (g'.fr l (.lst vs)) _ (ext_fr e h1 h3) (sok_fr hS h2 h3 h4) (rp_lst h3 h5)
/-- the callee writes nothing, or the caller may -/
def Fits (m m' : Bool) : Prop := m = true → m' = true
theorem Ext.fit {m m' : Bool} (h : Fits m m') {g g' : G} (e : Ext m' g g') : Ext m g g' := ⟨e.same, e.stay, e.obs, e.dom, (fun z => e.pure (h z)), e.frz⟩
section
variable {m m' : Bool} {X : Cx} {W : WX} {ca : Ct} {a e : Expr} {es : List Expr} {fa : En → M D} {fs : En → M (List D)} {pos p : Pos} {k : Nat} {f : Addr} {fd : FuncData} {ps : List Str} {fn : Fn} {x : Str}
theorem spOf_run {g : G} {S : Store} {σ : L2.St} {vs : List V} {ds : List D} {Q : VK} (hl : vs.length = ps.length) (hm : Fits m m') (hS : SOk ca g S) (r : RpA g.F g.p vs ds) (h : (fn ds S).sat (fun r S' => okE m ca g Q r.d S') (exE m ca W g σ)) : spOf m' ca ps.length fn vs g.H Q (WE W σ) :=
  ⟨hl, g, S, ds, rfl, hS, r, sat_mono h (fun r S' q g' v e s h => sok_ret (e.fit hm) s h q) fun c S' q g' e s => q g' (e.fit hm) s⟩
theorem spOf_runO {g : G} {S : Store} {σ : L2.St} {vs : List V} {ds : List D} {Q : VK} (hl : vs.length = ps.length) (hm : Fits m m') (hS : SOk ca g S) (r : RpA g.F g.p vs ds) (h : (fn ds S).sat (fun r S' => ∃ xs, r = .o xs ∧ okO m ca g Q xs S') (exE m ca W g σ)) : spOf m' ca ps.length fn vs g.H Q (WE W σ) :=
  ⟨hl, g, S, ds, rfl, hS, r, sat_mono h (fun r S' ⟨xs, er, q⟩ g' v e s h => by
    subst er
    obtain ⟨l, vs, rfl, h1, h2, h3, h4, h5⟩ := h
    exact q g' l vs (e.fit hm) s h1 h2 h3 h4 h5) fun c S' q g' e s => q g' (e.fit hm) s⟩
theorem de_call (F : FnD X.prog X.w X.K X.mg X.base k f fd ps m' ca fn) (hm' : Fits m m') (hn : (e :: es).length = ps.length) (hr : Room k X.A) (hm : X.mg x = some (.ref f)) (hk : PySem.W.keepIn X.K (.ref f) = true) (hb : Binds X.K fd ps []) (tk : Tk X W) (ha : DA m X W ca (e :: es) fs)
    (hln : ∀ env S ds S', fs env S = .ok ds S' → ds.length = (e :: es).length)
    (hg : Gl X x := by rfl) (hdb : (x == ("__debug__" : Str)) = false := by decide) (he : starEach (e :: es) X.env = (false, eval e X.env) :: starEach es X.env := by rfl) (hpl : (backTo pos (starEach es X.env)).any (·.1) = false := by rfl) :
    DE m X W ca (.Call (.Name x p) (e :: es) [] pos) (eFn fn fs) := by
  obtain ⟨t, pa, ka⟩ := ha
  refine ⟨_, pe_callS (E := WE W) F hr hg hm hk hb (fun σ => tkPass tk σ) pa hdb he hpl, fun H0 g S σ env hS hE Q h => ?_⟩
  cases e1 : fs env S with
  | bad => unfold eFn M.bind at h; rw [e1] at h; exact h.elim
  | exc c S1 =>
    refine ka H0 g S σ env hS hE _ ?_
    rw [e1]
    unfold eFn M.bind at h
    rw [e1] at h
    exact h
  | ok ds S1 =>
    refine ka H0 g S σ env hS hE _ ?_
    have h2 := seqE h
    rw [e1] at h2 ⊢
    intro g1 vs e2 s1 r1
    refine spOf_run (by rw [r1.length, hln _ _ _ _ e1]; exact hn) hm' s1 r1 (sat_mono (sat_bind (h2 g1 e2)) (fun r S2 q => q) fun c S2 q => q)
theorem do_call (F : FnD X.prog X.w X.K X.mg X.base k f fd ps m' ca fn) (hm' : Fits m m') (hn : (e :: es).length = ps.length) (hr : Room k X.A) (hm : X.mg x = some (.ref f)) (hk : PySem.W.keepIn X.K (.ref f) = true) (hb : Binds X.K fd ps []) (tk : Tk X W) (ha : DA m X W ca (e :: es) fs)
    (hln : ∀ env S ds S', fs env S = .ok ds S' → ds.length = (e :: es).length)
    (hg : Gl X x := by rfl) (hdb : (x == ("__debug__" : Str)) = false := by decide) (he : starEach (e :: es) X.env = (false, eval e X.env) :: starEach es X.env := by rfl) (hpl : (backTo pos (starEach es X.env)).any (·.1) = false := by rfl) :
    DO m X W ca (.Call (.Name x p) (e :: es) [] pos) (oFn fn fs) := by
  obtain ⟨t, pa, ka⟩ := ha
  refine ⟨_, pe_callS (E := WE W) F hr hg hm hk hb (fun σ => tkPass tk σ) pa hdb he hpl, fun H0 g S σ env hS hE Q h => ?_⟩
  cases e1 : fs env S with
  | bad => unfold oFn M.bind at h; rw [e1] at h; exact h.elim
  | exc c S1 =>
    refine ka H0 g S σ env hS hE _ ?_
    rw [e1]
    unfold oFn M.bind at h
    rw [e1] at h
    exact h
  | ok ds S1 =>
    refine ka H0 g S σ env hS hE _ ?_
    have h2 := seqO h
    rw [e1] at h2 ⊢
    intro g1 vs e2 s1 r1
    refine spOf_runO (by rw [r1.length, hln _ _ _ _ e1]; exact hn) hm' s1 r1 (sat_mono (sat_bind (h2 g1 e2)) (fun r S2 q => ?_) fun c S2 q => q)
    cases r with
    | o xs => exact ⟨xs, rfl, q⟩
    | f d => exact q.elim
/-- how many arguments come -/
theorem aNil_len : ∀ (env : En) (S : Store) (ds : List D) (S' : Store), aNil env S = .ok ds S' → ds.length = 0 := fun env S ds S' h => by cases h; rfl
theorem aCons_len {n : Nat} (h : ∀ (env : En) (S : Store) (ds : List D) (S' : Store), fs env S = .ok ds S' → ds.length = n) : ∀ (env : En) (S : Store) (ds : List D) (S' : Store), aCons fa fs env S = .ok ds S' → ds.length = n + 1 := fun env S ds S' e => by
  unfold aCons M.bind at e
  cases e1 : fa env S with
  | bad => rw [e1] at e; cases e
  | exc c S1 => rw [e1] at e; cases e
  | ok d S1 =>
    rw [e1] at e
    dsimp only at e
    cases e2 : fs env S1 with
    | bad => rw [e2] at e; cases e
    | exc c S1 => rw [e2] at e; cases e
    | ok r S2 =>
      rw [e2] at e; cases e
      rw [List.length_cons, h _ _ _ _ e2]

/-! ### texts -/
theorem lim_big {n : Nat} (h : n ≤ lim) : n ≤ 16777216 := Nat.le_trans h (by decide)
/-- s.m(e), s a text -/
def eM1 (op : Str → D → Option D) (a b : En → M D) : En → M D := fun env => M.bind (a env) fun x => match x with
  | .str s => M.bind (b env) fun y => M.lift (op s y)
  | _ => M.bad
def RelM (r : V → List V → Hp → VK → Prop) (op : Str → D → Option D) : Prop := ∀ (m : Bool) (ca : Ct) (g : G) (S : Store) (s : Str) (y : V) (dy z : D) (Q : VK), SOk ca g S → Rb m g y dy → op s dy = some z → okE m ca g Q z S → r (.str s) [y] g.H Q
theorem runM {b : Expr} {fb : En → M D} {r : V → List V → Hp → VK → Prop} {op : Str → D → Option D} {ta tb : TE} (ho : RelM r op)
    (ka : ∀ H0 g S σ env, SOk ca g S → EnvOk H0 g σ env → ∀ Q : VK, (fa env S).sat (okB m ca g Q) (exE m ca W g σ) → ta σ g.H Q)
    (kb : ∀ H0 g S σ env, SOk ca g S → EnvOk H0 g σ env → ∀ Q : VK, (fb env S).sat (okB m ca g Q) (exE m ca W g σ) → tb σ g.H Q) :
    ∀ H0 g S σ env, SOk ca g S → EnvOk H0 g σ env → ∀ Q : VK, (eM1 op fa fb env S).sat (okE m ca g Q) (exE m ca W g σ) → tM1 r ta tb σ g.H Q := fun H0 g S σ env hS hE Q h => by
  refine ka H0 g S σ env hS hE _ (sat_mono (seqE h) (fun x S1 q g1 v e1 s1 r1 => ?_) fun _ _ q => q)
  have q := q g1 e1
  cases x with
  | str s =>
    cases r1.str
    refine ⟨⟨s, rfl⟩, ?_⟩
    refine kb H0 g1 S1 σ env s1 (hE.ext e1) _ (sat_mono (seqE q) (fun y S2 q2 g2 u e2 s2 r2 => ?_) fun _ _ q => q)
    obtain ⟨z, hz, k⟩ := sat_lift (q2 g2 e2)
    exact ho m ca g2 S2 s u y z Q s2 r2 hz k
  | _ => exact q.elim
def joinO (s : Str) : D → Option D
  | .lst ys => (strsD ys).bind fun zs => if (zs.map (·.length)).sum + zs.length * s.length ≤ lim then some (.str (Txt.join s zs)) else none
  | _ => none
theorem rel_join {K : PySem.W.Frag} : RelM (fun x xs H Q => ∃ a p, ∃ ys : List Str, x = .str a ∧ xs = [.ref p] ∧ (SqL K H p (ys.map V.str) ∨ SqT K H p (ys.map V.str)) ∧ (ys.map (·.length)).sum + ys.length * a.length ≤ 16777216 ∧ Q (.str (Txt.join a ys)) H) joinO := fun m ca g S s y dy z Q hS r e k => by
  cases dy with
  | lst ys =>
    have e : ((strsD ys).bind fun zs => if (zs.map (·.length)).sum + zs.length * s.length ≤ lim then some (D.str (Txt.join s zs)) else none) = some z := e
    cases e1 : strsD ys with
    | none => rw [e1] at e; cases e
    | some zs =>
      rw [e1, Option.bind_some] at e
      split at e
      · rename_i c
        cases e
        obtain ⟨a, vs, rfl, h1, h2⟩ := r.lst hS
        cases strs_v h2 e1
        exact ⟨s, a, zs, rfl, rfl, .inl (SqL.of h1), lim_big c, k g _ (Ext.refl _) hS (.str _)⟩
      · cases e
  | _ => cases e
theorem de_join {b : Expr} {fb : En → M D} {apos : Pos} (ha : DB m X W ca a fa) (hb : DB m X W ca b fb) (hs : starEach [b] X.env = [(false, eval b X.env)] := by rfl) (hbase : attributeBase a "join" X.env (eval a X.env) = eval a X.env := by rfl) (hline : (apos.endLine == pos.line) = true := by rfl) :
    DE m X W ca (.Call (.Attribute a "join" apos) [b] [] pos) (eM1 joinO fa fb) := by
  obtain ⟨ta, pa, ka⟩ := ha
  obtain ⟨tb, pb, kb⟩ := hb
  exact ⟨_, pe_join pa pb hs hbase hline, runM (b := b) rel_join ka kb⟩
/-- s.split(sep), a new list -/
def oSplit (a b : En → M D) : En → M (List D) := fun env => M.bind (a env) fun x => match x with
  | .str s => M.bind (b env) fun y => match y with
    | .str t => if t.length ≠ 0 ∧ s.length + 2 ≤ lim then M.ret ((Txt.split s t).map D.str) else M.bad
    | _ => M.bad
  | _ => M.bad
theorem rpA_strs {F : Hp} {q : Pi} : ∀ (xs : List Str), RpA F q (xs.map V.str) (xs.map D.str)
  | [] => .nil
  | x :: xs => .cons (.str x) (rpA_strs xs)
end
end Dn

namespace Dn
open PySem L2 PyProof.Rows
section
variable {q m : Bool} {X : Cx} {W : WX} {ca : Ct} {a b e : Expr} {fa fb : En → M D} {pos : Pos} {st : Stmt} {f : En → M Fl}
/-! ### a list or a text cut -/
def eSlA (a : En → M D) (lo hi : En → M (Option Int)) : En → M D := fun env => M.bind (a env) fun x => M.bind (lo env) fun l => M.bind (hi env) fun u => match x with
  | .lst xs => M.ret (.lst (cutD xs l u))
  | .scr ns => M.ret (.lst ((cutI ns l u).map D.int))
  | .str s => if s.length ≤ lim then M.ret (.str (cutS s l u)) else M.bad
  | _ => M.bad
theorem de_slA {lo hi : Option Expr} {fl fh : En → M (Option Int)} {p2 : Pos} (ha : DB m X W ca a fa) (hl : DP m X W ca lo fl) (hh : DP m X W ca hi fh) (hK : ca.K = X.K := by rfl) : DE m X W ca (.Subscript a (.Slice lo hi none p2) pos) (eSlA fa fl fh) := by
  obtain ⟨t1, p1, k1⟩ := ha
  obtain ⟨t2, q2, k2⟩ := hl
  obtain ⟨t3, p3, k3⟩ := hh
  refine ⟨_, pe_slice (sl_list.or sl_str) p1 q2 p3, fun H0 g S σ env hS hE Q h => ?_⟩
  refine k1 H0 g S σ env hS hE _ (sat_mono (seqE h) (fun x S1 q g1 v e1 s1 r1 => ?_) fun _ _ q => q)
  refine k2 H0 g1 S1 σ env s1 (hE.ext e1) _ (sat_mono (seqE (q g1 e1)) (fun l S2 q g2 e2 s2 => ?_) fun _ _ q => q)
  refine k3 H0 g2 S2 σ env s2 (hE.ext (e1.trans e2)) _ (sat_mono (seqE (q g2 e2)) (fun u S3 q g3 e3 s3 => ?_) fun _ _ q => q)
  have q := q g3 e3
  have r1 := r1.ext s3 (e2.trans e3)
  cases x with
  | lst xs =>
    obtain ⟨a, vs, rfl, h, t⟩ := r1.lst s3
    refine .inl ⟨a, vs, rfl, SqL.of h, fun z hz => ?_⟩
    exact (show okE m ca g3 Q (.lst (cutD xs l u)) S3 from q) (g3.fz z _) _ (ext_fz s3 hz _) (sok_fz s3 hz _) (rp_lst (s3.free hz) (cut_rp t l u))
  | scr ns =>
    have r := r1.h s3
    cases r with
    | scr h =>
      have hq := (s3.sc _ _ h).sq
      rw [hK] at hq
      refine .inl ⟨_, _, rfl, hq, fun z hz => ?_⟩
      have e9 : cutD (ns.map D.int) l u = (cutI ns l u).map D.int := by unfold cutD cutI; simp [List.map_take, List.map_drop]
      refine (show okE m ca g3 Q (.lst ((cutI ns l u).map D.int)) S3 from q) (g3.fz z _) _ (ext_fz s3 hz _) (sok_fz s3 hz _) (rp_lst (s3.free hz) ?_)
      rw [← e9]
      exact cut_rp (RpA.ints ns) l u
  | str xs =>
    cases r1.str
    dsimp only at q
    by_cases c : xs.length ≤ lim
    · rw [if_pos c] at q
      exact .inr ⟨xs, rfl, lim_lt c, (show okE m ca g3 Q (.str (cutS xs l u)) S3 from q) g3 _ (Ext.refl _) s3 (.str _)⟩
    · rw [if_neg c] at q; exact q.elim
  | _ => exact q.elim
/-! ### list(x), tuple(x) -/
def oListF (a : En → M D) : En → M (List D) := fun env => M.bind (a env) fun x => match x with
  | .lst xs => M.ret xs
  | .tup xs => M.ret xs
  | _ => M.bad
theorem do_listF {p : Pos} (ha : DB m X W ca a fa) (hK : ca.K = X.K := by rfl) (hg : Gl X "list" := by rfl) (hm : X.mg "list" = none := by assumption) (hs : starEach [a] X.env = (false, eval a X.env) :: starEach [] X.env := by rfl) : DO m X W ca (.Call (.Name "list" p) [a] [] pos) (oListF fa) := by
  obtain ⟨t, pa, k⟩ := ha
  refine ⟨_, pe_callTy call_list_of hg hm (by decide +kernel) (pa_cons pa pa_nil hs) (he := hs), fun H0 g S σ env hS hE Q h => ?_⟩
  refine k H0 g S σ env hS hE _ (sat_mono (seqO h) (fun x S1 q g1 v e1 s1 r1 => ?_) fun _ _ q => q)
  have q := q g1 e1
  cases x with
  | lst xs =>
    obtain ⟨l, vs, rfl, h1, h2⟩ := r1.lst s1
    exact ⟨l, vs, rfl, .inl (SqL.of h1), fun z hz => (show okO m ca g1 Q xs S1 from q) (g1.nw z _) z _ (ext_nw s1 hz _) (sok_nw s1 hz _) hz upd_same (s1.free hz) (s1.nop hz) h2⟩
  | tup xs =>
    obtain ⟨l, vs, rfl, h1, h2⟩ := r1.tup s1
    exact ⟨l, vs, rfl, .inr (SqT.of h1), fun z hz => (show okO m ca g1 Q xs S1 from q) (g1.nw z _) z _ (ext_nw s1 hz _) (sok_nw s1 hz _) hz upd_same (s1.free hz) (s1.nop hz) h2⟩
  | _ => exact q.elim
def eTupF (a : En → M D) : En → M D := fun env => M.bind (a env) fun x => match x with
  | .lst xs => M.ret (.tup xs)
  | .tup xs => M.ret (.tup xs)
  | _ => M.bad
theorem de_tupF {p : Pos} (ha : DB m X W ca a fa) (hK : ca.K = X.K := by rfl) (hg : Gl X "tuple" := by rfl) (hm : X.mg "tuple" = none := by assumption) (hs : starEach [a] X.env = (false, eval a X.env) :: starEach [] X.env := by rfl) : DE m X W ca (.Call (.Name "tuple" p) [a] [] pos) (eTupF fa) := by
  obtain ⟨t, pa, k⟩ := ha
  refine ⟨_, pe_callTy call_tuple_of hg hm (by decide +kernel) (pa_cons pa pa_nil hs) (he := hs), fun H0 g S σ env hS hE Q h => ?_⟩
  refine k H0 g S σ env hS hE _ (sat_mono (seqE h) (fun x S1 q g1 v e1 s1 r1 => ?_) fun _ _ q => q)
  have q := q g1 e1
  cases x with
  | lst xs =>
    obtain ⟨l, vs, rfl, h1, h2⟩ := r1.lst s1
    exact ⟨l, vs, rfl, .inl ⟨SqL.of h1, fun z hz => (show okE m ca g1 Q (.tup xs) S1 from q) (g1.fz z _) _ (ext_fz s1 hz _) (sok_fz s1 hz _) (rp_tup (s1.free hz) h2)⟩⟩
  | tup xs =>
    rcases r1 with r1 | ⟨_, _, _, _, h, _⟩ | ⟨_, _, _, _, h, _⟩
    · cases r1 with
      | tup h1 h2 => exact ⟨_, _, rfl, .inr ⟨SqT.of (s1.same _ _ h1), (show okE m ca g1 Q (.tup xs) S1 from q) g1 _ (Ext.refl _) s1 (.tup h1 h2)⟩⟩
    · cases h
    · cases h
  | _ => exact q.elim
/-! ### split, index -/
theorem do_split {apos : Pos} (ha : DB m X W ca a fa) (hb : DB m X W ca b fb) (hs : starEach [b] X.env = [(false, eval b X.env)] := by rfl) (hbase : attributeBase a "split" X.env (eval a X.env) = eval a X.env := by rfl) (hline : (apos.endLine == pos.line) = true := by rfl) :
    DO m X W ca (.Call (.Attribute a "split" apos) [b] [] pos) (oSplit fa fb) := by
  obtain ⟨ta, pa, ka⟩ := ha
  obtain ⟨tb, pb, kb⟩ := hb
  refine ⟨_, pe_split pa pb hs hbase hline, fun H0 g S σ env hS hE Q h => ?_⟩
  refine ka H0 g S σ env hS hE _ (sat_mono (seqO h) (fun x S1 q g1 v e1 s1 r1 => ?_) fun _ _ q => q)
  have q := q g1 e1
  cases x with
  | str s =>
    cases r1.str
    refine ⟨⟨s, rfl⟩, ?_⟩
    refine kb H0 g1 S1 σ env s1 (hE.ext e1) _ (sat_mono (seqO q) (fun y S2 q2 g2 u e2 s2 r2 => ?_) fun _ _ q => q)
    have q2 := q2 g2 e2
    cases y with
    | str t =>
      cases r2.str
      dsimp only at q2
      by_cases c : t.length ≠ 0 ∧ s.length + 2 ≤ lim
      · rw [if_pos c] at q2
        refine ⟨s, t, rfl, rfl, by simpa using c.1, lim_lt c.2, fun z hz => ?_⟩
        exact (show okO m ca g2 Q ((Txt.split s t).map D.str) S2 from q2) (g2.nw z _) z _ (ext_nw s2 hz _) (sok_nw s2 hz _) hz upd_same (s2.free hz) (s2.nop hz) (rpA_strs _)
      · rw [if_neg c] at q2; exact q2.elim
    | _ => exact q2.elim
  | _ => exact q.elim
def findF (x : D) : List D → Option Nat
  | [] => none
  | y :: ys => if eqF y x = true then some 0 else (findF x ys).map (· + 1)
theorem findF_is {x : D} : ∀ {ys : List D} {j : Nat}, findF x ys = some j → (∃ z, ys[j]? = some z ∧ eqF z x = true) ∧ ∀ m z, m < j → ys[m]? = some z → eqF z x = false
  | [], _, h => by cases h
  | y :: ys, j, h => by
    unfold findF at h
    by_cases c : eqF y x = true
    · rw [if_pos c] at h; cases h
      exact ⟨⟨y, rfl, c⟩, fun m z hm => absurd hm (Nat.not_lt_zero _)⟩
    · rw [if_neg c] at h
      cases e : findF x ys with
      | none => rw [e] at h; cases h
      | some i =>
        rw [e] at h; cases h
        obtain ⟨⟨z, h1, h2⟩, h3⟩ := findF_is e
        refine ⟨⟨z, by simpa using h1, h2⟩, fun m w hm hw => ?_⟩
        cases m with
        | zero => cases hw; simpa using c
        | succ m => exact h3 m w (Nat.lt_of_succ_lt_succ hm) (by simpa using hw)
def eIndex (a b : En → M D) : En → M D := fun env => M.bind (a env) fun x => match x with
  | .lst xs => M.bind (b env) fun y => if flatD y = true ∧ xs.all flatD = true then M.lift ((findF y xs).map fun j => .int (j : Nat)) else M.bad
  | _ => M.bad
/-! ### walks of anything -/
def iA (a : En → M D) : En → M (List D) := fun env => M.bind (a env) fun x => match x with
  | .lst xs => M.ret xs
  | .scr ns => M.ret (ns.map D.int)
  | .tup xs => M.ret xs
  | .str s => M.ret (signsD s)
  | _ => M.bad
theorem pi_or {tg : Expr} {w1 w2 : TI} (h1 : PI X tg a w1) (h2 : PI X tg a w2) : PI X tg a (fun σ H R => w1 σ H R ∨ w2 σ H R) := ⟨fun pins s σ H R I h => by
  rcases h with h | h
  · exact h1.run pins s σ H R I h
  · exact h2.run pins s σ H R I h⟩
theorem di_any (ha : DE m X W ca a fa) (hK : ca.K = X.K := by rfl) : DI q m X W ca a (iA fa) := by
  obtain ⟨w1, p1, k1⟩ := di_list (q := q) ha hK
  obtain ⟨w2, p2, k2⟩ := di_tup (q := q) ha
  obtain ⟨w3, p3, k3⟩ := di_str (q := q) ha
  refine ⟨_, fun tg => pi_or (p1 tg) (pi_or (p2 tg) (p3 tg)), fun H0 g S σ env hS hE R h => ?_⟩
  unfold iA at h
  cases e : fa env S with
  | bad => unfold M.bind at h; rw [e] at h; exact h.elim
  | exc c S' => exact .inl (k1 H0 g S σ env hS hE R (by unfold iL; unfold M.bind at h ⊢; rw [e] at h ⊢; exact h))
  | ok x S' =>
    cases x with
    | lst xs => exact .inl (k1 H0 g S σ env hS hE R (by unfold iL; unfold M.bind at h ⊢; rw [e] at h ⊢; exact h))
    | scr xs => exact .inl (k1 H0 g S σ env hS hE R (by unfold iL; unfold M.bind at h ⊢; rw [e] at h ⊢; exact h))
    | tup xs => exact .inr (.inl (k2 H0 g S σ env hS hE R (by unfold iT; unfold M.bind at h ⊢; rw [e] at h ⊢; exact h)))
    | str xs => exact .inr (.inr (k3 H0 g S σ env hS hE R (by unfold iS; unfold M.bind at h ⊢; rw [e] at h ⊢; exact h)))
    | _ => unfold M.bind at h; rw [e] at h; exact h.elim
/-! ### targets' lengths, a list made data at once, a tuple unpacked -/
theorem bNil_len : ∀ (ds : List D) (env env' : En), bNil ds env = some env' → ds.length = 0 := fun ds env env' h => by
  cases ds with
  | nil => rfl
  | cons _ _ => cases h
theorem bCons_len {b : D → En → Option En} {r : List D → En → Option En} {n : Nat} (h : ∀ (ds : List D) (env env' : En), r ds env = some env' → ds.length = n) : ∀ (ds : List D) (env env' : En), bCons b r ds env = some env' → ds.length = n + 1 := fun ds env env' e => by
  cases ds with
  | nil => cases e
  | cons d ds =>
    have e : (b d env).bind (r ds) = some env' := e
    cases e1 : b d env with
    | none => rw [e1] at e; cases e
    | some env1 =>
      rw [e1] at e
      rw [List.length_cons, h _ _ _ e]
def sThenFz (i : Nat) (f : En → M Fl) : En → M Fl := fun env => M.bind (f env) fun fl => match fl with
  | .nx env' => M.ret (.nx (fzE i env'))
  | o => M.ret o
theorem ds_thenFz (i : Nat) (h : DS m X W ca st f) : DS m X W ca st (sThenFz i f) := by
  obtain ⟨t, p, k⟩ := h
  refine ⟨t, p, fun g0 g S σ env e0 hS hE D h => ?_⟩
  refine k g0 g S σ env e0 hS hE D (sat_mono (sat_bind h) (fun fl S1 q => ?_) fun _ _ q => q)
  cases fl with
  | nx env' =>
    intro g' σ' e1 m1 s1 hE1
    obtain ⟨g'', h1, h2, h3, h4, h5⟩ := fz_ok i e1 s1 hE1
    rw [← h1]
    exact (show okS m ca W g0 g D (.nx (fzE i env')) S1 from q) g'' σ' h2 (m1.trans h3) h4 h5
  | rt d => exact q
  | rtO xs => exact q
  | bk env' => exact q
  | ct env' => exact q
  | ex c env' => exact q
def sUnp (a : En → M D) (b : D → En → Option En) : En → M Fl := fun env => liftS (a env) env fun d => match b d env with
  | some env' => M.ret (.nx env')
  | none => M.bad
theorem ds_unp {tg : Expr} {bb : D → En → Option En} {ks : List Nat} (ha : DE m X W ca a fa) (hg : DG X tg bb ks) (hs : swapsWithSole [tg] a pos.line X.env = pure false := by rfl) (hw : swappedStores [tg] a X.env = pure none := by rfl)
    (h1 : (assignEach [tg] X.env).map (·.2) = [assign tg X.env] := by rfl) : DS m X W ca (.Assign [tg] a pos) (sUnp fa bb) := by
  obtain ⟨t, p, k⟩ := ha
  obtain ⟨t2, p2, k2⟩ := hg
  refine ⟨_, ps_asg p p2 hs hw h1, fun g0 g S σ env e0 hS hE D h => ?_⟩
  refine k g0.H g S σ env hS hE _ (sat_mono (stE e0 hE h) (fun d S1 q g1 v e1 s1 r1 => ?_) fun _ _ q => q)
  have q := q g1 e1
  cases eb : bb d env with
  | none => rw [eb] at q; exact q.elim
  | some env' =>
    rw [eb] at q
    exact k2 g0.H g1 σ env v d env' s1.same (hE.ext e1) r1 eb _ fun σ' hE' _ => (show okS m ca W g0 g1 D (.nx env') S1 from q) g1 σ' (e0.trans e1) (Mo.refl _) s1 hE'
end
end Dn

namespace Dn
open PySem L2 PyProof.Rows

/-! ### a part that writes nothing, where more is allowed -/
section
variable {m : Bool} {X : Cx} {W : WX} {ca : Ct} {e : Expr}
theorem DE.down {f : En → M D} (h : DE true X W ca e f) : DE m X W ca e f := by
  obtain ⟨t, p, k⟩ := h
  exact ⟨t, p, fun H0 g S σ env hS hE Q h => k H0 g S σ env hS hE Q (sat_mono h (fun d S' q g' v e s r => q g' v e.down s r) fun c S' q g' e s => q g' e.down s)⟩
theorem DT.down {f : En → M Bool} (h : DT true X W ca e f) : DT m X W ca e f := by
  obtain ⟨t, p, k⟩ := h
  exact ⟨t, p, fun H0 g S σ env hS hE Q h => k H0 g S σ env hS hE Q (sat_mono h (fun d S' q g' e s => q g' e.down s) fun c S' q g' e s => q g' e.down s)⟩
theorem DO.down {f : En → M (List D)} (h : DO true X W ca e f) : DO m X W ca e f := by
  obtain ⟨t, p, k⟩ := h
  exact ⟨t, p, fun H0 g S σ env hS hE Q h => k H0 g S σ env hS hE Q (sat_mono h (fun d S' q g' a vs e s n h1 h2 h3 r => q g' a vs e.down s n h1 h2 h3 r) fun c S' q g' e s => q g' e.down s)⟩
theorem DK.down {f : En → M (List (Key × D))} (h : DK true X W ca e f) : DK m X W ca e f := by
  obtain ⟨t, p, k⟩ := h
  exact ⟨t, p, fun H0 g S σ env hS hE Q h => k H0 g S σ env hS hE Q (sat_mono h (fun d S' q g' a vs e s n h1 h2 h3 r => q g' a vs e.down s n h1 h2 h3 r) fun c S' q g' e s => q g' e.down s)⟩
theorem DA.down {es : List Expr} {f : En → M (List D)} (h : DA true X W ca es f) : DA m X W ca es f := by
  obtain ⟨t, p, k⟩ := h
  exact ⟨t, p, fun H0 g S σ env hS hE Q h => k H0 g S σ env hS hE Q (sat_mono h (fun d S' q g' v e s r => q g' v e.down s r) fun c S' q g' e s => q g' e.down s)⟩
end

/-! ### fields -/
def putW (f : Str) (w : FV) : List (Str × FV) → List (Str × FV)
  | [] => [(f, w)]
  | (g, x) :: r => if g = f then (g, w) :: r else (g, x) :: putW f w r
theorem look_ne {β : Type} {g k : Str} (x : β) (r : List (Str × β)) (h : g ≠ k) : List.lookup g ((k, x) :: r) = List.lookup g r := by
  have : (g == k) = false := beq_eq_false_iff_ne.mpr h
  simp only [List.lookup, this]
theorem look_eq {β : Type} (g : Str) (x : β) (r : List (Str × β)) : List.lookup g ((g, x) :: r) = some x := by
  have : (g == g) = true := beq_iff_eq.mpr rfl
  simp only [List.lookup, this]
theorem lookup_putW (f g : Str) (w : FV) : ∀ ws : List (Str × FV), (putW f w ws).lookup g = if g = f then some w else ws.lookup g
  | [] => by
    unfold putW
    by_cases h : g = f
    · subst h; rw [look_eq, if_pos rfl]
    · rw [look_ne _ _ h, if_neg h]
  | (k, x) :: r => by
    unfold putW
    by_cases hk : k = f
    · subst hk
      rw [if_pos rfl]
      by_cases h : g = k
      · subst h; rw [look_eq, if_pos rfl]
      · rw [look_ne _ _ h, look_ne _ _ h, if_neg h]
    · rw [if_neg hk]
      by_cases h : g = k
      · subst h; rw [look_eq, look_eq, if_neg hk]
      · rw [look_ne _ _ h, look_ne _ _ h, lookup_putW f g w r]
theorem putF_same {f : Str} {v : V} : ∀ {fs : List (Str × V)}, fs.lookup f = some v → putF f v fs = fs
  | [], h => by simp at h
  | (k, x) :: r, h => by
    show (if k = f then (k, v) :: r else (k, x) :: putF f v r) = _
    by_cases hk : k = f
    · subst hk
      rw [look_eq] at h
      cases h
      rw [if_pos rfl]
    · rw [if_neg hk]
      rw [look_ne _ _ (Ne.symm hk)] at h
      rw [putF_same h]
theorem FsOk.get {g : G} {n : Nat} : ∀ {vs : List (Str × V)} {ws : List (Str × FV)}, FsOk g n vs ws → ∀ {f : Str} {w : FV}, ws.lookup f = some w → ∃ v, vs.lookup f = some v ∧ FvOk g n f v w
  | _, _, .nil, _, _, h => by simp at h
  | _, _, .cons (f := f0) (v := v0) (w := w0) (vs := vs) (ws := ws) h t z, f, w, e => by
    by_cases c : f = f0
    · subst c
      rw [look_eq] at e
      cases e
      exact ⟨v0, look_eq _ _ _, h⟩
    · rw [look_ne _ _ c] at e ⊢
      exact FsOk.get t e
theorem FsOk.length {g : G} {n : Nat} : ∀ {vs : List (Str × V)} {ws : List (Str × FV)}, FsOk g n vs ws → vs.length = ws.length
  | _, _, .nil => rfl
  | _, _, .cons _ t _ => by simp [FsOk.length t]
theorem FsOk.move {g g' : G} {n : Nat} {f : Str} (mv : ∀ f' v' w', f' ≠ f → FvOk g n f' v' w' → FvOk g' n f' v' w') : ∀ {vs : List (Str × V)} {ws : List (Str × FV)}, FsOk g n vs ws → ws.lookup f = none → FsOk g' n vs ws
  | _, _, .nil, _ => .nil
  | _, _, .cons (f := f0) h t z, e => by
    by_cases c : f = f0
    · subst c; rw [look_eq] at e; cases e
    · rw [look_ne _ _ c] at e
      exact .cons (mv _ _ _ (Ne.symm c) h) (FsOk.move mv t e) z
theorem FsOk.put {g g' : G} {n : Nat} {f : Str} {v : V} {w : FV} (mv : ∀ f' v' w', f' ≠ f → FvOk g n f' v' w' → FvOk g' n f' v' w') (r : FvOk g' n f v w) : ∀ {vs : List (Str × V)} {ws : List (Str × FV)}, FsOk g n vs ws → FsOk g' n (putF f v vs) (putW f w ws)
  | _, _, .nil => .cons r .nil rfl
  | _, _, .cons (f := f0) (v := v0) (w := w0) (vs := vs) (ws := ws) h t z => by
    show FsOk g' n (if f0 = f then (f0, v) :: vs else (f0, v0) :: putF f v vs) (if f0 = f then (f0, w) :: ws else (f0, w0) :: putW f w ws)
    by_cases c : f0 = f
    · subst c
      rw [if_pos rfl, if_pos rfl]
      exact .cons r (FsOk.move mv t z) z
    · rw [if_neg c, if_neg c]
      refine .cons (mv _ _ _ c h) (FsOk.put mv r t) ?_
      rw [lookup_putW, if_neg c, z]
/-- a field of object n, or its own list, is written -/
structure Wr (g : G) (n : Nat) (f : Str) (a : Addr) (z : Option Addr) (H' : Hp) (p' : Pi) : Prop where
  ea : g.p (.ob n) = some a
  stay : ∀ b o, b ≠ a → z ≠ some b → g.H b = some o → H' b = some o
  wz : ∀ l, z = some l → g.p (.fl n f) = some l ∧ (∃ o, H' l = some o) ∧ ∀ o u, g.H l ≠ some (.frz o u)
  ob : ∀ k, p' (.ob k) = g.p (.ob k)
  fl : ∀ k f', ¬ (k = n ∧ f' = f) → p' (.fl k f') = g.p (.fl k f')
  new : ∀ q, p' (.fl n f) = some q → g.p (.fl n f) = some q ∨ ((∀ l, g.p l ≠ some q) ∧ g.F q = none ∧ ∃ o, g.H q = some o)
  sc : ∀ b ns, p'.sc b ns ↔ g.p.sc b ns
section
variable {ca : Ct} {g : G} {S : Store} {n : Nat} {f : Str} {a : Addr} {z : Option Addr} {H' : Hp} {p' : Pi} {ob : Ob} {C dx : Addr} {fs : List (Str × V)} {v : V} {w : FV}
theorem Wr.pi (r : Wr g n f a z H' p') : PiLe g.p p' := ⟨fun k b h => by rw [r.ob]; exact h, fun b ns h => (r.sc b ns).mpr h⟩
theorem Wr.some' (r : Wr g n f a z H' p') (hA : ∃ o, H' a = some o) {b : Addr} {o : HO} (h : g.H b = some o) : ∃ o', H' b = some o' := by
  by_cases c : b = a
  · subst c; exact hA
  · by_cases d : z = some b
    · exact (r.wz b d).2.1
    · exact ⟨o, r.stay b o c d h⟩
theorem Wr.none' (r : Wr g n f a z H' p') (hA : ∃ o, H' a = some o) {b : Addr} (h : H' b = none) : g.H b = none := by
  cases c : g.H b with
  | none => rfl
  | some o =>
    obtain ⟨o', q⟩ := r.some' hA c
    rw [q] at h
    cases h
theorem sok_put (hS : SOk ca g S) (r : Wr g n f a z H' p') (e : S[n]? = some ob) (eH : g.H a = some (.ins C dx fs)) (hc : C = ca ob.cls) (hf : FsOk g n fs ob.fs)
    (hA : H' a = some (.ins C dx (putF f v fs))) (hw : FvOk ⟨g.F, H', p'⟩ n f v w) : SOk ca ⟨g.F, H', p'⟩ (S.set n ⟨ob.cls, putW f w ob.fs⟩) := by
  have hn : n < S.length := (List.getElem?_eq_some_iff.mp e).1
  have aw : ∃ o, H' a = some o := ⟨_, hA⟩
  have old : ∀ l b, p' l = some b → g.p l = some b ∨ (l = .fl n f ∧ (∀ l', g.p l' ≠ some b) ∧ g.F b = none ∧ ∃ o, g.H b = some o) := fun l b h => by
    cases l with
    | ob k => left; rw [← r.ob]; exact h
    | fl k f' =>
      by_cases c : k = n ∧ f' = f
      · obtain ⟨rfl, rfl⟩ := c
        rcases r.new b h with q | q
        · exact .inl q
        · exact .inr ⟨rfl, q⟩
      · left; rw [← r.fl k f' c]; exact h
  have keep : ∀ l b o, l ≠ .fl n f → l ≠ .ob n → g.p l = some b → g.H b = some o → H' b = some o := fun l b o h1 h2 h3 h4 => by
    refine r.stay b o (fun c => ?_) (fun c => ?_) h4
    · subst c; exact h2 (hS.inj _ _ _ h3 r.ea)
    · exact h1 (hS.inj _ _ _ h3 (r.wz b c).1)
  have fv : ∀ k f' v' w', ¬ (k = n ∧ f' = f) → FvOk g k f' v' w' → FvOk ⟨g.F, H', p'⟩ k f' v' w' := fun k f' v' w' c h => by
    cases w' with
    | f d => exact Rp.mono (Same.refl _) r.pi h
    | o xs =>
      obtain ⟨l, vs, h1, h2, h3, h4⟩ := h
      exact ⟨l, vs, h1, by show p' _ = _; rw [r.fl k f' c]; exact h2, keep (.fl k f') l _ (fun q => c (by cases q; exact ⟨rfl, rfl⟩)) (fun q => nomatch q) h2 h3, RpA.mono (Same.refl _) r.pi h4⟩
    | k xs =>
      obtain ⟨l, vs, h1, h2, h3, h4⟩ := h
      exact ⟨l, vs, h1, by show p' _ = _; rw [r.fl k f' c]; exact h2, keep (.fl k f') l _ (fun q => c (by cases q; exact ⟨rfl, rfl⟩)) (fun q => nomatch q) h2 h3, RpK.mono (Same.refl _) r.pi h4⟩
  refine ⟨fun b u h => ?_, fun l l' b h1 h2 => ?_, fun l b h => ?_, fun l b h => ?_, fun k ob' h hk => ?_, fun b ns h => ?_, fun k b h => ?_, fun k f' b h => ?_, fun k ob' h hk => ?_⟩
  · refine r.stay b u (fun c => ?_) (fun c => ?_) (hS.same _ _ h)
    · subst c; have q := hS.out _ _ r.ea; rw [show g.F b = some u from h] at q; cases q
    · have q := hS.out _ _ (r.wz b c).1; rw [show g.F b = some u from h] at q; cases q
  · rcases old l b h1 with q1 | ⟨e1, q1, -⟩ <;> rcases old l' b h2 with q2 | ⟨e2, q2, -⟩
    · exact hS.inj _ _ _ q1 q2
    · exact absurd q1 (q2 l)
    · exact absurd q2 (q1 l')
    · rw [e1, e2]
  · rcases old l b h with q | ⟨-, -, q, -⟩
    · exact hS.out _ _ q
    · exact q
  · rcases old l b h with q | ⟨-, -, -, o, q⟩
    · obtain ⟨o, h1⟩ := hS.live _ _ q
      exact r.some' aw h1
    · exact r.some' aw q
  · by_cases c : k = n
    · subst c
      rw [List.getElem?_set_self hn] at h
      cases h
      exact ⟨a, dx, _, by show p' _ = _; rw [r.ob]; exact r.ea, by rw [← hc]; exact hA, FsOk.put (fun f' v' w' c h => fv k f' v' w' (fun q => c q.2) h) hw hf⟩
    · rw [List.getElem?_set_ne (Ne.symm c)] at h
      obtain ⟨b, dy, gs, h1, h2, h3⟩ := hS.obs k ob' h hk
      refine ⟨b, dy, gs, by show p' _ = _; rw [r.ob]; exact h1, keep (.ob k) b _ (fun q => nomatch q) (fun q => c (by cases q; rfl)) h1 h2, ?_⟩
      clear h1 h2 h
      generalize ob'.fs = ws at h3
      induction h3 with
      | nil => exact .nil
      | cons h t z ih => exact .cons (fv k _ _ _ (fun q => c q.1) h) ih z
  · refine (hS.sc b ns ((r.sc b ns).mp h)).keep fun b' o' u' h' => r.stay b' _ (fun c => ?_) (fun c => ?_) h'
    · subst c; rw [eH] at h'; cases h'
    · exact (r.wz b' c).2.2 _ _ h'
  · rw [List.length_set]
    exact hS.lt k b (by rw [← r.ob]; exact h)
  · rw [List.length_set]
    rcases old _ b h with q | ⟨q, -⟩
    · exact hS.lf k f' b q
    · cases q; exact hn
  · by_cases c : k = n
    · subst c
      rw [List.getElem?_set_self hn] at h
      cases h
      obtain ⟨b, h1, h2⟩ := hS.raw k ob e hk
      rw [r.ea] at h1
      cases h1
      rcases h2 with ⟨_, _, _, h3, _⟩ | ⟨_, _, _, h3, _⟩ | ⟨_, _, _, _, h3, _⟩ <;> (rw [eH] at h3; cases h3)
    · rw [List.getElem?_set_ne (Ne.symm c)] at h
      obtain ⟨b, h1, h2⟩ := hS.raw k ob' h hk
      exact ⟨b, by show p' _ = _; rw [r.ob]; exact h1, RawAt.mv (g := g) (g' := ⟨g.F, H', p'⟩) (Same.refl _) r.pi (fun o x => keep (.ob k) b o (fun q => nomatch q) (fun q => c (by cases q; rfl)) h1 x) h2⟩
theorem ext_put {g0 : G} (e0 : Ext false g0 g) (r : Wr g n f a z H' p') (hA : ∃ o, H' a = some o) (hz : ∀ x y, g.H a ≠ some (.frz x y)) (hq : ∀ q, p' (.fl n f) = some q → g.p (.fl n f) = some q ∨ g0.H q = none) : Ext false g0 ⟨g.F, H', p'⟩ :=
  ⟨e0.same, fun b o h1 h2 h3 => by
    obtain ⟨k1, k2, k3⟩ := e0.stay b o h1 h2 h3
    refine ⟨r.stay b o (fun c => ?_) (fun c => ?_) k1, k2, fun l h => ?_⟩
    · subst c; exact k3 _ r.ea
    · exact k3 _ (r.wz b c).1
    · cases l with
      | ob k => exact k3 (.ob k) (by rw [← r.ob]; exact h)
      | fl k f' =>
        by_cases c : k = n ∧ f' = f
        · obtain ⟨rfl, rfl⟩ := c
          rcases hq b h with q | q
          · exact k3 _ q
          · rw [h1] at q; cases q
        · exact k3 (.fl k f') (by rw [← r.fl k f' c]; exact h), e0.obs.trans r.pi, fun b h => e0.dom b (r.none' hA h), (fun h => nomatch h), fun b x y h => by
    have h1 := e0.frz b x y h
    exact r.stay b _ (fun c => hz x y (by rw [← c]; exact h1)) (fun c => (r.wz b c).2.2 x y h1) h1⟩
theorem mo_put (r : Wr g n f a z H' p') (hA : ∃ o, H' a = some o) (hz : ∀ x y, g.H a ≠ some (.frz x y)) : Mo false g ⟨g.F, H', p'⟩ :=
  ⟨Same.refl _, r.pi, fun b h => r.none' hA h, (fun h => nomatch h), fun b x y h => r.stay b _ (fun c => hz x y (by rw [← c]; exact h)) (fun c => (r.wz b c).2.2 x y h) h⟩
end
end Dn

namespace Dn
open PySem L2 PyProof.Rows
/-! ### reading and writing fields -/
def objF {α : Type} (C : Str) (d : D) (k : Nat → Ob → M α) : M α := fun S => match d with
  | .obj n => match S[n]? with
    | some ob => if ob.cls = C then k n ob S else .bad
    | none => .bad
  | _ => .bad
theorem objF_get {α : Type} {C : Str} {d : D} {k : Nat → Ob → M α} {S : Store} {P : α → Store → Prop} {E : Str → Store → Prop} (h : (objF C d k S).sat P E) : ∃ n ob, d = .obj n ∧ S[n]? = some ob ∧ ob.cls = C ∧ (k n ob S).sat P E := by
  unfold objF at h
  cases d with
  | obj n =>
    dsimp only at h
    cases e : S[n]? with
    | none => rw [e] at h; exact h.elim
    | some ob =>
      rw [e] at h
      by_cases c : ob.cls = C
      · exact ⟨n, ob, rfl, e, c, by simpa [c] using h⟩
      · simp [c] at h; exact h.elim
  | _ => exact h.elim
def fvD : Option FV → M D
  | some (.f d) => M.ret d
  | some (.o xs) => M.ret (.lst xs)
  | some (.k kv) => M.ret (.dct kv)
  | none => M.bad
def fvE : Option FV → M D
  | some (.f d) => M.ret d
  | _ => M.bad
/-- o.f, read for now -/
def eFld (C f : Str) (fo : En → M D) : En → M D := fun env => M.bind (fo env) fun x => objF C x fun n ob => fvD (ob.fs.lookup f)
/-- o.f, data -/
def eFldD (C f : Str) (fo : En → M D) : En → M D := fun env => M.bind (fo env) fun x => objF C x fun n ob => fvE (ob.fs.lookup f)
/-- o.f = e, data -/
def sFldD (C f : Str) (fo fa : En → M D) : En → M Fl := fun env => liftS (fa env) env fun d => liftS (fo env) env fun x => objF C x fun n ob => if ob.fs.length < 1000 then fun S => .ok (.nx env) (S.set n ⟨ob.cls, putW f (.f d) ob.fs⟩) else M.bad
/-- o.f = e, a new list -/
def sFldO (C f : Str) (fo : En → M D) (fa : En → M (List D)) : En → M Fl := fun env => liftS (fa env) env fun d => liftS (fo env) env fun x => objF C x fun n ob => if ob.fs.length < 1000 then fun S => .ok (.nx env) (S.set n ⟨ob.cls, putW f (.o d) ob.fs⟩) else M.bad
/-- o.f = e, a new dict -/
def sFldK (C f : Str) (fo : En → M D) (fa : En → M (List (Key × D))) : En → M Fl := fun env => liftS (fa env) env fun d => liftS (fo env) env fun x => objF C x fun n ob => if ob.fs.length < 1000 then fun S => .ok (.nx env) (S.set n ⟨ob.cls, putW f (.k d) ob.fs⟩) else M.bad
def fldO {α : Type} (C f : Str) (x : D) (k : Nat → Ob → List D → M α) : M α := objF C x fun n ob => match ob.fs.lookup f with
  | some (.o xs) => k n ob xs
  | _ => M.bad
theorem fldO_get {α : Type} {C f : Str} {d : D} {k : Nat → Ob → List D → M α} {S : Store} {P : α → Store → Prop} {E : Str → Store → Prop} (h : (fldO C f d k S).sat P E) : ∃ n ob xs, d = .obj n ∧ S[n]? = some ob ∧ ob.cls = C ∧ ob.fs.lookup f = some (.o xs) ∧ (k n ob xs S).sat P E := by
  obtain ⟨n, ob, h1, h2, h3, h⟩ := objF_get h
  cases e : ob.fs.lookup f with
  | none => rw [e] at h; exact h.elim
  | some w =>
    rw [e] at h
    cases w with
    | o xs => exact ⟨n, ob, xs, h1, h2, h3, e, h⟩
    | _ => exact h.elim
section
variable {m : Bool} {X : Cx} {W : WX} {ca : Ct} {o e b : Expr} {fo fa fb : En → M D} {pos pos' : Pos} {C f : Str}
theorem SOk.ob {g : G} {S : Store} (hS : SOk ca g S) {n : Nat} {ob : Ob} {v : V} (e : S[n]? = some ob) (r : Rp g.F g.p v (.obj n)) {C : Str} (ec : ob.cls = C) (hC : (C == ("" : Str)) = false) : ∃ a dx fs, v = .ref a ∧ g.p (.ob n) = some a ∧ g.H a = some (.ins (ca ob.cls) dx fs) ∧ FsOk g n fs ob.fs := by
  obtain ⟨a, dx, fs, h1, h2, h3⟩ := hS.obs n ob e (by rw [ec]; exact beq_eq_false_iff_ne.mp hC)
  cases r with
  | obj hp => rw [h1] at hp; cases hp; exact ⟨_, dx, fs, rfl, h1, h2, h3⟩
theorem Rb.obj {g : G} {v : V} {n : Nat} (r : Rb m g v (.obj n)) : Rp g.F g.p v (.obj n) := by
  rcases r with r | ⟨_, _, _, _, e, _⟩ | ⟨_, _, _, _, e, _⟩
  · exact r
  · cases e
  · cases e
theorem db_fld (c : Cls X.K (ca C)) (nf : NoAttr X.K (ca C) f) (ho : DE true X W ca o fo) (hb : attributeBase o f X.env (eval o X.env) = eval o X.env := by rfl) (hC : (C == ("" : Str)) = false := by decide) : DB true X W ca (.Attribute o f pos) (eFld C f fo) := by
  obtain ⟨t, p, k⟩ := ho
  refine ⟨_, pe_fld p hb, fun H0 g S σ env hS hE Q h => k H0 g S σ env hS hE _ (sat_mono (seqB h) (fun x S1 z g1 v e1 s1 r1 => ?_) fun _ _ q => q)⟩
  obtain ⟨n, ob, rfl, eS, ec, z⟩ := objF_get (z g1 e1)
  obtain ⟨a, dx, fs, rfl, h1, h2, h3⟩ := s1.ob eS r1 ec hC
  cases hl : ob.fs.lookup f with
  | none => rw [hl] at z; exact z.elim
  | some w =>
    rw [hl] at z
    obtain ⟨v, q1, q2⟩ := h3.get hl
    refine ⟨a, ca C, dx, fs, v, rfl, by rw [← ec]; exact h2, c, nf, q1, ?_⟩
    cases w with
    | f d => exact (show okB true ca g1 Q d S1 from z) g1 v (Ext.refl _) s1 (.inl q2)
    | o xs =>
      obtain ⟨l, vs, rfl, h4, h5, h6⟩ := q2
      exact (show okB true ca g1 Q (.lst xs) S1 from z) g1 _ (Ext.refl _) s1 (.inr (.inl ⟨l, vs, xs, rfl, rfl, h5, ⟨s1.out _ _ h4, .inr ⟨rfl, _, h4⟩⟩, h6⟩))
    | k xs =>
      obtain ⟨l, vs, rfl, h4, h5, h6⟩ := q2
      exact (show okB true ca g1 Q (.dct xs) S1 from z) g1 _ (Ext.refl _) s1 (.inr (.inr ⟨l, vs, xs, rfl, rfl, h5, ⟨s1.out _ _ h4, .inr ⟨rfl, _, h4⟩⟩, h6⟩))
theorem de_fldD (c : Cls X.K (ca C)) (nf : NoAttr X.K (ca C) f) (ho : DE m X W ca o fo) (hb : attributeBase o f X.env (eval o X.env) = eval o X.env := by rfl) (hC : (C == ("" : Str)) = false := by decide) : DE m X W ca (.Attribute o f pos) (eFldD C f fo) := by
  obtain ⟨t, p, k⟩ := ho
  refine ⟨_, pe_fld p hb, fun H0 g S σ env hS hE Q h => k H0 g S σ env hS hE _ (sat_mono (seqE h) (fun x S1 z g1 v e1 s1 r1 => ?_) fun _ _ q => q)⟩
  obtain ⟨n, ob, rfl, eS, ec, z⟩ := objF_get (z g1 e1)
  obtain ⟨a, dx, fs, rfl, h1, h2, h3⟩ := s1.ob eS r1 ec hC
  cases hl : ob.fs.lookup f with
  | none => rw [hl] at z; exact z.elim
  | some w =>
    rw [hl] at z
    obtain ⟨v, q1, q2⟩ := h3.get hl
    refine ⟨a, ca C, dx, fs, v, rfl, by rw [← ec]; exact h2, c, nf, q1, ?_⟩
    cases w with
    | f d => exact (show okE m ca g1 Q d S1 from z) g1 v (Ext.refl _) s1 q2
    | _ => exact z.elim
/-- the object at a takes v as f -/
theorem wr_obj {g : G} {S : Store} (hS : SOk ca g S) {n : Nat} {a C dx : Addr} {fs : List (Str × V)} {u : HO} (ea : g.p (.ob n) = some a) : Wr g n f a none (upd g.H a u) g.p :=
  ⟨ea, fun b o h _ e => by rw [upd_ne h]; exact e, (fun l h => nomatch h), fun _ => rfl, fun _ _ _ => rfl, fun q h => .inl h, fun _ _ => Iff.rfl⟩
theorem ds_fldD (c : Cls X.K (ca C)) (nf : NoAttr X.K (ca C) f) (ho : DE false X W ca o fo) (ha : DE false X W ca e fa) (hs : swapsWith e (some (.Attribute o f pos')) pos.line X.env = pure false := by rfl) (hC : (C == ("" : Str)) = false := by decide) : DS false X W ca (.Assign [.Attribute o f pos'] e pos) (sFldD C f fo fa) := by
  obtain ⟨to, po, ko⟩ := ho
  obtain ⟨ta, pa, ka⟩ := ha
  refine ⟨_, ps_fld po pa hs, fun g0 g S σ env e0 hS hE D h => ?_⟩
  refine ka g0.H g S σ env hS hE _ (sat_mono (stE e0 hE h) (fun d S1 z g1 v e1 s1 r1 => ?_) fun _ _ q => q)
  refine ko g0.H g1 S1 σ env s1 (hE.ext e1) _ (sat_mono (stE (e0.trans e1) (hE.ext e1) (z g1 e1)) (fun x S2 z g2 u e2 s2 r2 => ?_) fun _ _ q => q)
  obtain ⟨n, ob, rfl, eS, ec, z⟩ := objF_get (z g2 e2)
  obtain ⟨a, dx, fs, rfl, h1, h2, h3⟩ := s2.ob eS r2 ec hC
  by_cases hl : ob.fs.length < 1000
  · rw [if_pos hl] at z
    rw [ec] at h2
    refine ⟨a, ca C, dx, fs, rfl, h2, c, nf, by rw [h3.length]; exact hl, ?_⟩
    have wr := wr_obj (f := f) (C := ca C) (dx := dx) (fs := fs) (u := .ins (ca C) dx (putF f v fs)) s2 h1
    have aw : ∃ o, upd g2.H a (.ins (ca C) dx (putF f v fs)) a = some o := ⟨_, upd_same⟩
    have ex := ext_put (Ext.refl g2) wr aw (fun x y q => by rw [h2] at q; cases q) (fun q h => .inl h)
    exact (show okS false ca W g0 g2 D (.nx env) (S2.set n ⟨ob.cls, putW f (.f d) ob.fs⟩) from z) ⟨g2.F, upd g2.H a (.ins (ca C) dx (putF f v fs)), g2.p⟩ σ ((e0.trans (e1.trans e2)).trans ex) ex.mo
      (sok_put s2 wr eS h2 (by rw [ec]) h3 upd_same (e2.rp r1)) (((hE.ext e1).ext e2).ext ex)
  · rw [if_neg hl] at z; exact z.elim
/-- the place of a field's own list changes -/
def Pi.to (p : Pi) (n : Nat) (f : Str) (q : Addr) : Pi := ⟨fun l => match l with
  | .ob k => p.at_ (.ob k)
  | .fl k f' => if k = n ∧ f' = f then some q else p.at_ (.fl k f'), p.sc⟩
theorem Pi.to_le (p : Pi) (n : Nat) (f : Str) (q : Addr) : PiLe p (p.to n f q) := ⟨fun _ _ h => h, fun _ _ h => h⟩
theorem Pi.to_self (p : Pi) (n : Nat) (f : Str) (q : Addr) : (p.to n f q).at_ (.fl n f) = some q := by
  show (if n = n ∧ f = f then _ else _) = _
  rw [if_pos ⟨rfl, rfl⟩]
theorem wr_own {g : G} {S : Store} (hS : SOk ca g S) {n : Nat} {a q : Addr} {u o : HO} (ea : g.p (.ob n) = some a) (hq : ∀ l, g.p l ≠ some q) (hF : g.F q = none) (hH : g.H q = some o) : Wr g n f a none (upd g.H a u) (g.p.to n f q) :=
  ⟨ea, fun b o h _ e => by rw [upd_ne h]; exact e, (fun l h => nomatch h), fun _ => rfl, fun k f' h => if_neg h, fun q' h => by
    rw [Pi.to_self] at h
    cases h
    exact .inr ⟨hq, hF, o, hH⟩, fun _ _ => Iff.rfl⟩
theorem own_fld {g0 g g2 : G} {S2 : Store} {σ : L2.St} {env : En} {D : Ends} {n : Nat} {a q dx : Addr} {fs : List (Str × V)} {ob : Ob} {o : HO} {w : FV} (e0 : Ext false g0 g) (ex : Ext false g g2) (hE : EnvOk g0.H g σ env) (nq : g.H q = none) (s2 : SOk ca g2 S2) (eS : S2[n]? = some ob) (ec : ob.cls = C) (h1 : g2.p (.ob n) = some a) (h2 : g2.H a = some (.ins (ca C) dx fs)) (h3 : FsOk g2 n fs ob.fs)
    (hq : g2.H q = some o) (hqa : o ≠ .ins (ca C) dx fs) (hF : g2.F q = none) (hp : ∀ l, g2.p l ≠ some q) (hw : FvOk ⟨g2.F, upd g2.H a (.ins (ca C) dx (putF f (.ref q) fs)), g2.p.to n f q⟩ n f (.ref q) w) (z : okS false ca W g0 g2 D (.nx env) (S2.set n ⟨ob.cls, putW f w ob.fs⟩)) : D.nx σ (upd g2.H a (.ins (ca C) dx (putF f (.ref q) fs))) := by
  have wr : Wr g2 n f a none (upd g2.H a (.ins (ca C) dx (putF f (.ref q) fs))) (g2.p.to n f q) := wr_own s2 h1 hp hF hq
  have aw : ∃ o, upd g2.H a (.ins (ca C) dx (putF f (.ref q) fs)) a = some o := ⟨_, upd_same⟩
  have ex2 := ext_put ex wr aw (fun x y q => by rw [h2] at q; cases q) (fun q' h => by
    rw [Pi.to_self] at h
    cases h
    exact .inr nq)
  exact z ⟨g2.F, upd g2.H a (.ins (ca C) dx (putF f (.ref q) fs)), g2.p.to n f q⟩ σ (e0.trans ex2) (mo_put wr aw (fun x y q => by rw [h2] at q; cases q)) (sok_put s2 wr eS h2 (by rw [ec]) h3 upd_same hw) (hE.ext ex2)
theorem ds_fldO {fl : En → M (List D)} (c : Cls X.K (ca C)) (nf : NoAttr X.K (ca C) f) (ho : DE false X W ca o fo) (ha : DO false X W ca e fl) (hs : swapsWith e (some (.Attribute o f pos')) pos.line X.env = pure false := by rfl) (hC : (C == ("" : Str)) = false := by decide) : DS false X W ca (.Assign [.Attribute o f pos'] e pos) (sFldO C f fo fl) := by
  obtain ⟨to, po, ko⟩ := ho
  obtain ⟨ta, pa, ka⟩ := ha
  refine ⟨_, ps_fld po pa hs, fun g0 g S σ env e0 hS hE D h => ?_⟩
  refine ka g0.H g S σ env hS hE _ (sat_mono (stE e0 hE h) (fun d S1 z g1 q vs e1 s1 nq hq hF hp r1 => ?_) fun _ _ q => q)
  refine ko g0.H g1 S1 σ env s1 (hE.ext e1) _ (sat_mono (stE (e0.trans e1) (hE.ext e1) (z g1 e1)) (fun x S2 z g2 u e2 s2 r2 => ?_) fun _ _ q => q)
  obtain ⟨n, ob, rfl, eS, ec, z⟩ := objF_get (z g2 e2)
  obtain ⟨a, dx, fs, rfl, h1, h2, h3⟩ := s2.ob eS r2 ec hC
  obtain ⟨hq, hF, hp⟩ := e2.stay q _ hq hF hp
  by_cases hl : ob.fs.length < 1000
  · rw [if_pos hl] at z
    rw [ec] at h2
    refine ⟨a, ca C, dx, fs, rfl, h2, c, nf, by rw [h3.length]; exact hl, ?_⟩
    exact own_fld (W := W) (w := .o d) e0 (e1.trans e2) hE nq s2 eS ec h1 h2 h3 hq (fun z => nomatch z) hF hp ⟨q, vs, rfl, Pi.to_self _ _ _ _, by
      show upd g2.H a _ q = _
      rw [upd_ne (fun z => by subst z; rw [h2] at hq; cases hq)]; exact hq, RpA.mono (Same.refl _) (Pi.to_le _ _ _ _) (e2.rpA r1)⟩ z
  · rw [if_neg hl] at z; exact z.elim
theorem ds_fldK {fl : En → M (List (Key × D))} (c : Cls X.K (ca C)) (nf : NoAttr X.K (ca C) f) (ho : DE false X W ca o fo) (ha : DK false X W ca e fl) (hs : swapsWith e (some (.Attribute o f pos')) pos.line X.env = pure false := by rfl) (hC : (C == ("" : Str)) = false := by decide) : DS false X W ca (.Assign [.Attribute o f pos'] e pos) (sFldK C f fo fl) := by
  obtain ⟨to, po, ko⟩ := ho
  obtain ⟨ta, pa, ka⟩ := ha
  refine ⟨_, ps_fld po pa hs, fun g0 g S σ env e0 hS hE D h => ?_⟩
  refine ka g0.H g S σ env hS hE _ (sat_mono (stE e0 hE h) (fun d S1 z g1 q vs e1 s1 nq hq hF hp r1 => ?_) fun _ _ q => q)
  refine ko g0.H g1 S1 σ env s1 (hE.ext e1) _ (sat_mono (stE (e0.trans e1) (hE.ext e1) (z g1 e1)) (fun x S2 z g2 u e2 s2 r2 => ?_) fun _ _ q => q)
  obtain ⟨n, ob, rfl, eS, ec, z⟩ := objF_get (z g2 e2)
  obtain ⟨a, dx, fs, rfl, h1, h2, h3⟩ := s2.ob eS r2 ec hC
  obtain ⟨hq, hF, hp⟩ := e2.stay q _ hq hF hp
  by_cases hl : ob.fs.length < 1000
  · rw [if_pos hl] at z
    rw [ec] at h2
    refine ⟨a, ca C, dx, fs, rfl, h2, c, nf, by rw [h3.length]; exact hl, ?_⟩
    exact own_fld (W := W) (w := .k d) e0 (e1.trans e2) hE nq s2 eS ec h1 h2 h3 hq (fun z => nomatch z) hF hp ⟨q, vs, rfl, Pi.to_self _ _ _ _, by
      show upd g2.H a _ q = _
      rw [upd_ne (fun z => by subst z; rw [h2] at hq; cases hq)]; exact hq, RpK.mono (Same.refl _) (Pi.to_le _ _ _ _) (e2.rpK r1)⟩ z
  · rw [if_neg hl] at z; exact z.elim
end
end Dn

namespace Dn
open PySem L2 PyProof.Rows
/-! ### a field's own list, written in place -/
def setB {α : Type} (n : Nat) (ob : Ob) (a : α) : M α := fun S => .ok a (S.set n ob)
/-- o.f.append(e) -/
def sFldApp (C f : Str) (fo fa : En → M D) : En → M Fl := fun env => liftS (fo env) env fun x => fldO C f x fun n _ _ => liftS (fa env) env fun d => fldO C f (.obj n) fun n ob xs => if xs.length < lim then setB n ⟨ob.cls, putW f (.o (xs ++ [d])) ob.fs⟩ (.nx env) else M.bad
/-- o.f.pop(i) -/
def eFldPop (C f : Str) (fo fi : En → M D) : En → M D := fun env => M.bind (fo env) fun x => fldO C f x fun n _ _ => M.bind (fi env) fun i => fldO C f (.obj n) fun n ob xs => match i with
  | .int k => match ixN xs.length k with
    | some j => match xs[j]? with
      | some d => if xs.length ≤ lim then setB n ⟨ob.cls, putW f (.o (xs.eraseIdx j)) ob.fs⟩ d else M.bad
      | none => M.bad
    | none => M.bad
  | _ => M.bad
/-- o.f[i] = e -/
def sFldSetI (C f : Str) (fo fi fa : En → M D) : En → M Fl := fun env => liftS (fa env) env fun d => liftS (fo env) env fun x => fldO C f x fun n _ _ => liftS (fi env) env fun i => fldO C f (.obj n) fun n ob xs => match i with
  | .int k => match ixN xs.length k with
    | some j => setB n ⟨ob.cls, putW f (.o (xs.set j d)) ob.fs⟩ (.nx env)
    | none => M.bad
  | _ => M.bad
/-- o.f.append(o.f.pop(i)) -/
def sFldRot (C f : Str) (fo fi : En → M D) : En → M Fl := fun env => liftS (fo env) env fun x => fldO C f x fun n _ _ => liftS (eFldPop C f fo fi env) env fun d => fldO C f (.obj n) fun n ob xs => if xs.length < lim then setB n ⟨ob.cls, putW f (.o (xs ++ [d])) ob.fs⟩ (.nx env) else M.bad
section
variable {m : Bool} {X : Cx} {W : WX} {ca : Ct} {o e b : Expr} {fo fa fb : En → M D} {pos pos' : Pos} {C f : Str}
/-- the list at l, of field f of object n, gets the content ws -/
theorem wr_inpl {g : G} {S : Store} (hS : SOk ca g S) {n : Nat} {a l : Addr} {u : HO} {vs : List V} (ea : g.p (.ob n) = some a) (hl : g.p (.fl n f) = some l) (hH : g.H l = some (.lst vs)) : Wr g n f a (some l) (upd g.H l u) g.p :=
  ⟨ea, fun b o _ h e => by rw [upd_ne (fun z => h (by rw [z]))]; exact e, fun l' h => by
    cases h
    exact ⟨hl, ⟨u, upd_same⟩, fun o u' z => by rw [hH] at z; cases z⟩, fun _ => rfl, fun _ _ _ => rfl, fun q h => .inl h, fun _ _ => Iff.rfl⟩
theorem inpl {g0 g : G} (e0 : Ext false g0 g) {S : Store} (hS : SOk ca g S) {n : Nat} {ob : Ob} {ys : List D} {a l dx : Addr} {fs : List (Str × V)} {vs ws : List V} (eS : S[n]? = some ob) (ea : g.p (.ob n) = some a) (eH : g.H a = some (.ins (ca ob.cls) dx fs)) (hf : FsOk g n fs ob.fs) (hv : fs.lookup f = some (.ref l))
    (hl : g.p (.fl n f) = some l) (hH : g.H l = some (.lst vs)) (r : RpA g.F g.p ws ys) : Ext false g0 ⟨g.F, upd g.H l (.lst ws), g.p⟩ ∧ Mo false g ⟨g.F, upd g.H l (.lst ws), g.p⟩ ∧ SOk ca ⟨g.F, upd g.H l (.lst ws), g.p⟩ (S.set n ⟨ob.cls, putW f (.o ys) ob.fs⟩) := by
  have wr := wr_inpl (u := .lst ws) hS ea hl hH
  have na : a ≠ l := fun z => by subst z; rw [eH] at hH; cases hH
  have hA : upd g.H l (.lst ws) a = some (.ins (ca ob.cls) dx (putF f (.ref l) fs)) := by rw [upd_ne na, putF_same hv]; exact eH
  exact ⟨ext_put e0 wr ⟨_, hA⟩ (fun x y q => by rw [eH] at q; cases q) (fun q h => .inl h), mo_put wr ⟨_, hA⟩ (fun x y q => by rw [eH] at q; cases q), sok_put hS wr eS eH rfl hf hA ⟨l, ws, rfl, hl, upd_same, r⟩⟩
/-- what stands at a field's own list -/
theorem SOk.fld {g : G} {S : Store} (hS : SOk ca g S) {n : Nat} {ob : Ob} {xs : List D} {v : V} (eS : S[n]? = some ob) (r : Rp g.F g.p v (.obj n)) (hl : ob.fs.lookup f = some (.o xs)) {C : Str} (ec : ob.cls = C) (hC : (C == ("" : Str)) = false) :
    ∃ a dx fs l vs, v = .ref a ∧ g.p (.ob n) = some a ∧ g.H a = some (.ins (ca ob.cls) dx fs) ∧ FsOk g n fs ob.fs ∧ fs.lookup f = some (.ref l) ∧ g.p (.fl n f) = some l ∧ g.H l = some (.lst vs) ∧ RpA g.F g.p vs xs := by
  obtain ⟨a, dx, fs, h0, h1, h2, h3⟩ := hS.ob eS r ec hC
  obtain ⟨v, q1, l, vs, rfl, q2, q3, q4⟩ := h3.get hl
  exact ⟨a, dx, fs, l, vs, h0, h1, h2, h3, q1, q2, q3, q4⟩
theorem exE.dn {g : G} {σ : L2.St} {c : Str} {S : Store} (h : exE m ca W g σ c S) : exE true ca W g σ c S := fun g' e s => h g' e.down s
theorem ds_fldApp {apos fpos cpos : Pos} (c : Cls X.K (ca C)) (nf : NoAttr X.K (ca C) f) (ho : DE false X W ca o fo) (ha : DE true X W ca e fa) (hb : attributeBase o f X.env (eval o X.env) = eval o X.env := by rfl)
    (hbase : attributeBase (.Attribute o f fpos) "append" X.env (eval (.Attribute o f fpos) X.env) = eval (.Attribute o f fpos) X.env := by rfl)
    (hfew : ((backTo cpos (starEach [e] X.env)).all (fun x => !x.1) && (backToKw cpos (keywordEach [] X.env)).all (fun x => x.1.isSome) && decide (([e] : List Expr).length + ([] : List Keyword).length + (if ([] : List Keyword).isEmpty then 0 else 1) < 30)) = true := by rfl)
    (hline : (apos.endLine == cpos.line) = true := by rfl) (hs : starEach [e] X.env = (false, eval e X.env) :: starEach [] X.env := by rfl) (hsw : swapsWith (.Call (.Attribute (.Attribute o f fpos) "append" apos) [e] [] cpos) none pos.line X.env = pure false := by rfl) (hC : (C == ("" : Str)) = false := by decide) :
    DS false X W ca (.Expr (.Call (.Attribute (.Attribute o f fpos) "append" apos) [e] [] cpos) pos) (sFldApp C f fo fa) := by
  obtain ⟨to, po, ko⟩ := ho
  obtain ⟨ta, pa, ka⟩ := ha
  refine ⟨_, ps_expr (pe_bm PySem.F.plainAttrs_list PySem.F.slot_list_append PySem.F.type_list_append mt_append (pe_fld po hb) (pa_cons pa pa_nil hs) hbase hfew hline hs) hsw, fun g0 g S σ env e0 hS hE D h => ?_⟩
  refine ko g0.H g S σ env hS hE _ (sat_mono (stE e0 hE h) (fun x S1 z g1 u e1 s1 r1 => ?_) fun _ _ q => q)
  obtain ⟨n, ob, xs, rfl, eS, ec, el, z⟩ := fldO_get (z g1 e1)
  obtain ⟨a, dx, fs, l, vs, rfl, h1, h2, h3, h4, h5, h6, h7⟩ := s1.fld eS r1 el ec hC
  refine ⟨a, ca C, dx, fs, _, rfl, by rw [← ec]; exact h2, c, nf, h4, .inl ⟨rfl, vs, SqL.of h6⟩, ?_⟩
  refine ka g0.H g1 S1 σ env s1 (hE.ext e1) _ (sat_mono (stE (e0.trans e1) (hE.ext e1) z) (fun d S2 z g2 v e2 s2 r2 => ?_) fun _ _ q => q.dn)
  have e2' : Ext false g1 g2 := e2.down
  obtain ⟨n', ob2, xs2, en, eS2, ec2, el2, z⟩ := fldO_get (z g2 e2')
  cases en
  obtain ⟨a2, dx2, fs2, l2, vs2, ea2, k1, k2, k3, k4, k5, k6, k7⟩ := s2.fld eS2 (e2.rp r1) el2 ec2 hC
  obtain ⟨pe, pk⟩ := e2.pure rfl
  have el : l2 = l := by rw [pe, h5] at k5; cases k5; rfl
  subst el
  by_cases hl : xs2.length < lim
  · rw [if_pos hl] at z
    obtain ⟨ex, mx, sx⟩ := inpl (e0.trans (e1.trans e2')) s2 eS2 k1 k2 k3 k4 k5 k6 (k7.append (.one r2))
    refine ⟨_, vs2, v, rfl, rfl, k6, by rw [k7.length]; exact lim_lt' hl, ?_⟩
    exact (show okS false ca W g0 g2 D (.nx env) (S2.set n ⟨ob2.cls, putW f (.o (xs2 ++ [d])) ob2.fs⟩) from z) _ σ ex mx sx (((hE.ext e1).ext e2').ext (inpl (Ext.refl g2) s2 eS2 k1 k2 k3 k4 k5 k6 (k7.append (.one r2))).1)
  · rw [if_neg hl] at z; exact z.elim
theorem de_fldPop {apos fpos cpos : Pos} (c : Cls X.K (ca C)) (nf : NoAttr X.K (ca C) f) (ho : DE false X W ca o fo) (ha : DE true X W ca e fa) (hb : attributeBase o f X.env (eval o X.env) = eval o X.env := by rfl)
    (hbase : attributeBase (.Attribute o f fpos) "pop" X.env (eval (.Attribute o f fpos) X.env) = eval (.Attribute o f fpos) X.env := by rfl)
    (hfew : ((backTo cpos (starEach [e] X.env)).all (fun x => !x.1) && (backToKw cpos (keywordEach [] X.env)).all (fun x => x.1.isSome) && decide (([e] : List Expr).length + ([] : List Keyword).length + (if ([] : List Keyword).isEmpty then 0 else 1) < 30)) = true := by rfl)
    (hline : (apos.endLine == cpos.line) = true := by rfl) (hs : starEach [e] X.env = (false, eval e X.env) :: starEach [] X.env := by rfl) (hC : (C == ("" : Str)) = false := by decide) :
    DE false X W ca (.Call (.Attribute (.Attribute o f fpos) "pop" apos) [e] [] cpos) (eFldPop C f fo fa) := by
  obtain ⟨to, po, ko⟩ := ho
  obtain ⟨ta, pa, ka⟩ := ha
  refine ⟨_, pe_bm PySem.F.plainAttrs_list PySem.F.slot_list_pop PySem.F.type_list_pop mt_popAt (pe_fld po hb) (pa_cons pa pa_nil hs) hbase hfew hline hs, fun H0 g S σ env hS hE Q h => ?_⟩
  refine ko H0 g S σ env hS hE _ (sat_mono (seqE h) (fun x S1 z g1 u e1 s1 r1 => ?_) fun _ _ q => q)
  obtain ⟨n, ob, xs, rfl, eS, ec, el, z⟩ := fldO_get (z g1 e1)
  obtain ⟨a, dx, fs, l, vs, rfl, h1, h2, h3, h4, h5, h6, h7⟩ := s1.fld eS r1 el ec hC
  refine ⟨a, ca C, dx, fs, _, rfl, by rw [← ec]; exact h2, c, nf, h4, .inl ⟨rfl, vs, SqL.of h6⟩, ?_⟩
  refine ka H0 g1 S1 σ env s1 (hE.ext e1) _ (sat_mono (seqE z) (fun i S2 z g2 v e2 s2 r2 => ?_) fun _ _ q => q.dn)
  have e2' : Ext false g1 g2 := e2.down
  obtain ⟨n', ob2, xs2, en, eS2, ec2, el2, z⟩ := fldO_get (z g2 e2')
  cases en
  obtain ⟨a2, dx2, fs2, l2, vs2, ea2, k1, k2, k3, k4, k5, k6, k7⟩ := s2.fld eS2 (e2.rp r1) el2 ec2 hC
  obtain ⟨pe, pk⟩ := e2.pure rfl
  have el : l2 = l := by rw [pe, h5] at k5; cases k5; rfl
  subst el
  cases i with
  | int k =>
    dsimp only at z
    cases ej : ixN xs2.length k with
    | none => rw [ej] at z; exact z.elim
    | some j =>
      rw [ej] at z
      dsimp only at z
      cases ed : xs2[j]? with
      | none => rw [ed] at z; exact z.elim
      | some d =>
        rw [ed] at z
        dsimp only at z
        by_cases hl : xs2.length ≤ lim
        · rw [if_pos hl] at z
          obtain ⟨w, w1, w2⟩ := k7.get j ed
          obtain ⟨ex, mx, sx⟩ := inpl (Ext.refl g2) s2 eS2 k1 k2 k3 k4 k5 k6 (k7.eraseIdx j)
          obtain ⟨i1, i2, i3, i4⟩ := ixN_seq ej
          have hl' : xs2.length ≤ 1000000 := hl
          cases r2
          refine ⟨_, vs2, k, j, w, rfl, rfl, k6, by omega, by omega, by rw [k7.length]; exact i1, w1, ?_⟩
          exact (show okE false ca g2 Q d (S2.set n ⟨ob2.cls, putW f (.o (xs2.eraseIdx j)) ob2.fs⟩) from z) _ w ex sx w2
        · rw [if_neg hl] at z; exact z.elim
  | _ => exact z.elim
theorem ds_fldSetI {fpos spos : Pos} (c : Cls X.K (ca C)) (nf : NoAttr X.K (ca C) f) (ho : DE false X W ca o fo) (hi : DE true X W ca b fb) (ha : DE false X W ca e fa) (hb : attributeBase o f X.env (eval o X.env) = eval o X.env := by rfl)
    (hsw : swapsWithSole [.Subscript (.Attribute o f fpos) b spos] e pos.line X.env = pure false := by rfl) (hsw2 : swappedStores [.Subscript (.Attribute o f fpos) b spos] e X.env = pure none := by rfl)
    (h1 : (assignEach [.Subscript (.Attribute o f fpos) b spos] X.env).map (·.2) = [assign (.Subscript (.Attribute o f fpos) b spos) X.env] := by rfl)
    (has : ∀ v, assign (.Subscript (.Attribute o f fpos) b spos) X.env v = (do
      let ov ← holding [v] (eval (.Attribute o f fpos) X.env)
      let iv ← holding [v, ov] (eval b X.env)
      standAt spos
      holding [v, ov, iv] (setItem ov iv v)
      release [v, ov, iv] []) := by intro _; rfl) (hC : (C == ("" : Str)) = false := by decide) :
    DS false X W ca (.Assign [.Subscript (.Attribute o f fpos) b spos] e pos) (sFldSetI C f fo fb fa) := by
  obtain ⟨to, po, ko⟩ := ho
  obtain ⟨ti, pi, ki⟩ := hi
  obtain ⟨ta, pa, ka⟩ := ha
  refine ⟨_, ps_asg pa (pg_sub (pe_fld po hb) pi set_list has) hsw hsw2 h1, fun g0 g S σ env e0 hS hE D h => ?_⟩
  refine ka g0.H g S σ env hS hE _ (sat_mono (stE e0 hE h) (fun d S0 z g' v e' s' rv => ?_) fun _ _ q => q)
  have e0 := e0.trans e'
  have hE := hE.ext e'
  refine ko g0.H g' S0 σ env s' hE _ (sat_mono (stE e0 hE (z g' e')) (fun x S1 z g1 u e1 s1 r1 => ?_) fun _ _ q => q)
  obtain ⟨n, ob, xs, rfl, eS, ec, el, z⟩ := fldO_get (z g1 e1)
  obtain ⟨a, dx, fs, l, vs, rfl, h1, h2, h3, h4, h5, h6, h7⟩ := s1.fld eS r1 el ec hC
  refine ⟨a, ca C, dx, fs, _, rfl, by rw [← ec]; exact h2, c, nf, h4, ?_⟩
  refine ki g0.H g1 S1 σ env s1 (hE.ext e1) _ (sat_mono (stE (e0.trans e1) (hE.ext e1) z) (fun i S2 z g2 w e2 s2 r2 => ?_) fun _ _ q => q.dn)
  have e2' : Ext false g1 g2 := e2.down
  obtain ⟨n', ob2, xs2, en, eS2, ec2, el2, z⟩ := fldO_get (z g2 e2')
  cases en
  obtain ⟨a2, dx2, fs2, l2, vs2, ea2, k1, k2, k3, k4, k5, k6, k7⟩ := s2.fld eS2 (e2.rp r1) el2 ec2 hC
  obtain ⟨pe, pk⟩ := e2.pure rfl
  have el : l2 = l := by rw [pe, h5] at k5; cases k5; rfl
  subst el
  cases i with
  | int k =>
    dsimp only at z
    cases ej : ixN xs2.length k with
    | none => rw [ej] at z; exact z.elim
    | some j =>
      rw [ej] at z
      cases r2
      have rr := k7.set j (e2'.rp (e1.rp rv))
      obtain ⟨ex, mx, sx⟩ := inpl (e0.trans (e1.trans e2')) s2 eS2 k1 k2 k3 k4 k5 k6 rr
      refine ⟨_, vs2, k, j, rfl, rfl, k6, by rw [k7.length]; exact ej, ?_⟩
      exact (show okS false ca W g0 g2 D (.nx env) (S2.set n ⟨ob2.cls, putW f (.o (xs2.set j d)) ob2.fs⟩) from z) _ σ ex mx sx (((hE.ext e1).ext e2').ext (inpl (Ext.refl g2) s2 eS2 k1 k2 k3 k4 k5 k6 rr).1)
  | _ => exact z.elim
theorem ds_fldRot {apos fpos cpos apos2 fpos2 cpos2 : Pos} (c : Cls X.K (ca C)) (nf : NoAttr X.K (ca C) f) (ho : DE true X W ca o fo) (ho2 : DE true X W ca b fo) (ha : DE true X W ca e fa) (hb : attributeBase o f X.env (eval o X.env) = eval o X.env := by rfl) (hb2 : attributeBase b f X.env (eval b X.env) = eval b X.env := by rfl)
    (hbase2 : attributeBase (.Attribute b f fpos2) "pop" X.env (eval (.Attribute b f fpos2) X.env) = eval (.Attribute b f fpos2) X.env := by rfl)
    (hfew2 : ((backTo cpos2 (starEach [e] X.env)).all (fun x => !x.1) && (backToKw cpos2 (keywordEach [] X.env)).all (fun x => x.1.isSome) && decide (([e] : List Expr).length + ([] : List Keyword).length + (if ([] : List Keyword).isEmpty then 0 else 1) < 30)) = true := by rfl)
    (hline2 : (apos2.endLine == cpos2.line) = true := by rfl) (hs2 : starEach [e] X.env = (false, eval e X.env) :: starEach [] X.env := by rfl)
    (hbase : attributeBase (.Attribute o f fpos) "append" X.env (eval (.Attribute o f fpos) X.env) = eval (.Attribute o f fpos) X.env := by rfl)
    (hfew : ((backTo cpos (starEach [.Call (.Attribute (.Attribute b f fpos2) "pop" apos2) [e] [] cpos2] X.env)).all (fun x => !x.1) && (backToKw cpos (keywordEach [] X.env)).all (fun x => x.1.isSome) && decide (([.Call (.Attribute (.Attribute b f fpos2) "pop" apos2) [e] [] cpos2] : List Expr).length + ([] : List Keyword).length + (if ([] : List Keyword).isEmpty then 0 else 1) < 30)) = true := by rfl)
    (hline : (apos.endLine == cpos.line) = true := by rfl) (hs : starEach [.Call (.Attribute (.Attribute b f fpos2) "pop" apos2) [e] [] cpos2] X.env = (false, eval (.Call (.Attribute (.Attribute b f fpos2) "pop" apos2) [e] [] cpos2) X.env) :: starEach [] X.env := by rfl)
    (hsw : swapsWith (.Call (.Attribute (.Attribute o f fpos) "append" apos) [.Call (.Attribute (.Attribute b f fpos2) "pop" apos2) [e] [] cpos2] [] cpos) none pos.line X.env = pure false := by rfl) (hC : (C == ("" : Str)) = false := by decide) :
    DS false X W ca (.Expr (.Call (.Attribute (.Attribute o f fpos) "append" apos) [.Call (.Attribute (.Attribute b f fpos2) "pop" apos2) [e] [] cpos2] [] cpos) pos) (sFldRot C f fo fa) := by
  obtain ⟨to, po, ko⟩ := ho
  obtain ⟨to2, po2, ko2⟩ := ho2
  obtain ⟨ta, pa, ka⟩ := ha
  refine ⟨_, ps_expr (pe_bm PySem.F.plainAttrs_list PySem.F.slot_list_append PySem.F.type_list_append mt_append (pe_fld po hb) (pa_cons (pe_bm PySem.F.plainAttrs_list PySem.F.slot_list_pop PySem.F.type_list_pop mt_popAt (pe_fld po2 hb2) (pa_cons pa pa_nil hs2) hbase2 hfew2 hline2 hs2) pa_nil hs) hbase hfew hline hs) hsw, fun g0 g S σ env e0 hS hE D h => ?_⟩
  refine ko g0.H g S σ env hS hE _ (sat_mono (stE e0 hE h) (fun x S1 z g1 u e1 s1 r1 => ?_) fun _ _ q => q.dn)
  have d1 : Ext false g g1 := e1.down
  have hE1 := hE.ext e1
  obtain ⟨n, ob, xs, rfl, eS, ec, el, z⟩ := fldO_get (z g1 d1)
  obtain ⟨a, dx, fs, l, vs, rfl, h1, h2, h3, h4, h5, h6, h7⟩ := s1.fld eS r1 el ec hC
  refine ⟨a, ca C, dx, fs, _, rfl, by rw [← ec]; exact h2, c, nf, h4, .inl ⟨rfl, vs, SqL.of h6⟩, ?_⟩
  have z := stE (e0.trans d1) hE1 z
  unfold eFldPop at z
  refine ko2 g0.H g1 S1 σ env s1 hE1 _ (sat_mono (sat_bind z) (fun x2 S2 z g2 u2 e2 s2 r2 => ?_) fun _ _ q => q.dn)
  have d2 : Ext false g1 g2 := e2.down
  obtain ⟨n2, ob2, xs2, rfl, eS2, ec2, el2, z⟩ := fldO_get z
  obtain ⟨a2, dx2, fs2, l2, vs2, rfl, i1, i2, i3, i4, i5, i6, i7⟩ := s2.fld eS2 r2 el2 ec2 hC
  refine ⟨a2, ca C, dx2, fs2, _, rfl, by rw [← ec2]; exact i2, c, nf, i4, .inl ⟨rfl, vs2, SqL.of i6⟩, ?_⟩
  refine ka g0.H g2 S2 σ env s2 (hE1.ext e2) _ (sat_mono (sat_bind z) (fun i S3 z g3 v e3 s3 r3 => ?_) fun _ _ q => (q.mono d2).dn)
  have d3 : Ext false g2 g3 := e3.down
  obtain ⟨n3, ob3, xs3, en, eS3, ec3, el3, z⟩ := fldO_get z
  cases en
  obtain ⟨a3, dx3, fs3, l3, vs3, ea3, k1, k2, k3, k4, k5, k6, k7⟩ := s3.fld eS3 (e3.rp r2) el3 ec3 hC
  obtain ⟨pe2, pk2⟩ := e2.pure rfl
  obtain ⟨pe3, pk3⟩ := e3.pure rfl
  have el3' : l3 = l2 := by rw [pe3, i5] at k5; cases k5; rfl
  subst el3'
  cases i with
  | int k =>
    dsimp only at z
    cases ej : ixN xs3.length k with
    | none => rw [ej] at z; exact z.elim
    | some j =>
      rw [ej] at z
      dsimp only at z
      cases ed : xs3[j]? with
      | none => rw [ed] at z; exact z.elim
      | some d =>
        rw [ed] at z
        dsimp only at z
        by_cases hl : xs3.length ≤ lim
        · rw [if_pos hl] at z
          obtain ⟨w, w1, w2⟩ := k7.get j ed
          obtain ⟨ex, mx, sx⟩ := inpl (Ext.refl g3) s3 eS3 k1 k2 k3 k4 k5 k6 (k7.eraseIdx j)
          obtain ⟨j1, j2, j3, j4⟩ := ixN_seq ej
          have hl' : xs3.length ≤ 1000000 := hl
          cases r3
          refine ⟨_, vs3, k, j, w, rfl, rfl, k6, by omega, by omega, by rw [k7.length]; exact j1, w1, ?_⟩
          have dd := d2.trans (d3.trans ex)
          have z := (show ∀ g', Ext false g1 g' → _ from z) _ dd
          obtain ⟨n4, ob4, xs4, en, eS4, ec4, el4, z⟩ := fldO_get z
          cases en
          obtain ⟨a4, dx4, fs4, l4, vs4, ea4, q1, q2, q3, q4, q5, q6, q7⟩ := sx.fld eS4 (dd.rp r1) el4 ec4 hC
          have el4' : l4 = l := by
            have q5 : g3.p (.fl n f) = some l4 := q5
            rw [pe3, pe2, h5] at q5; cases q5; rfl
          subst el4'
          by_cases hl4 : xs4.length < lim
          · rw [if_pos hl4] at z
            obtain ⟨ex4, mx4, sx4⟩ := inpl (e0.trans (d1.trans dd)) sx eS4 q1 q2 q3 q4 q5 q6 (q7.append (.one w2))
            refine ⟨_, vs4, w, rfl, rfl, q6, by rw [q7.length]; exact lim_lt' hl4, ?_⟩
            exact (show okS false ca W g0 ⟨g3.F, upd g3.H l3 (.lst (vs3.eraseIdx j)), g3.p⟩ D (.nx env) _ from z) _ σ ex4 mx4 sx4 ((hE1.ext dd).ext (inpl (Ext.refl _) sx eS4 q1 q2 q3 q4 q5 q6 (q7.append (.one w2))).1)
          · rw [if_neg hl4] at z; exact z.elim
        · rw [if_neg hl] at z; exact z.elim
  | _ => exact z.elim
end
end Dn

namespace Dn
open PySem L2 PyProof.Rows
/-! ### calls: no argument, methods, new objects -/
section
variable {X : Cx} {CX : CXT} {k : Nat} {f C : Addr} {fd : FuncData} {ps : List Str} {sp : Sp} {E : L2.St → XK} {x mt : Str} {p pos apos : Pos} {e o : Expr} {es : List Expr} {ta : TE} {t : TA}
theorem pe_c0 (F : FnOk X.prog X.w X.K X.mg X.base CX k f fd ps sp) (hr : Room k X.A) (hg : Gl X x) (hm : X.mg x = some (.ref f)) (hk : PySem.W.keepIn X.K (.ref f) = true) (hb : Binds X.K fd ps []) (hx : ∀ σ, PassesAt CX X σ (E σ)) (hdb : (x == ("__debug__" : Str)) = false := by decide) :
    PE X (.Call (.Name x p) [] [] pos) (fun σ H Q => sp [] H Q (E σ)) :=
  ⟨fun pins s σ H Q I h => wpAny_Call_Name_kw (ld_glob I hg hm (PySem.W.callWith_K0 I.kIn hk (run_fnS (us := []) F hr hb (hx σ) I .nil h)) hdb)⟩
def tMt (C : Addr) (mt : Str) (sp : Sp) (E : L2.St → XK) (ta : TE) (t : TA) : TE := fun σ H Q => ta σ H fun x H1 => ∃ a dx fs, x = .ref a ∧ H1 a = some (.ins C dx fs) ∧ fs.lookup mt = none ∧ t σ H1 fun vs H2 => sp (x :: vs) H2 Q (E σ)
theorem pe_mt {pl : Sem Bool} (he : PE X o ta) (c : Cls X.K C) (hm : Meth X.K C mt f) (F : FnOk X.prog X.w X.K X.mg X.base CX k f fd ps sp) (hr : Room k X.A) (hb : Binds X.K fd ps []) (hx : ∀ σ, PassesAt CX X σ (E σ)) (ha : PA X (e :: es) t)
    (hst : starEach (e :: es) X.env = (false, eval e X.env) :: starEach es X.env) (hpl : (backTo pos (starEach es X.env)).any (·.1) = false) (ht : eval (.Call (.Attribute o mt apos) (e :: es) [] pos) X.env = (do
      let ov ← eval o X.env
      standAt apos.atName
      let (f, first) ← holding [ov] (getMethod ov mt pl)
      callWith pos f first (backTo pos (starEach (e :: es) X.env)) (backToKw pos (keywordEach [] X.env)))) : PE X (.Call (.Attribute o mt apos) (e :: es) [] pos) (tMt C mt sp E ta t) := by
  refine ⟨fun pins s σ H Q I h => PySem.W.methodCall_KW (pl := pl) (thn (he.run pins s σ H _ I h) fun u s1 hu => ?_) ht⟩
  obtain ⟨x, H1, I1, rx, a, dx, fs, ex, ea, l, q⟩ := hu
  subst ex
  obtain rfl : u = Value.ref a := rx
  refine getmeth_ok I1 ea c hm l (PySem.W.callWith_K (first := [.ref a]) (h₀ := X.base) I1.ok.mod.kin hm.kp (thn (ha.run pos pins s1 σ H1 _ I1 q) fun us s2 hs => ?_) hst hpl)
  obtain ⟨vs, H2, I2, r, q2⟩ := hs
  exact ⟨I2.kIn, run_fnS (us := .ref a :: us) (vs := .ref a :: vs) F hr hb (hx σ) I2 (.cons rfl r) q2⟩
theorem pe_mt0 {pl : Sem Bool} (he : PE X o ta) (c : Cls X.K C) (hm : Meth X.K C mt f) (F : FnOk X.prog X.w X.K X.mg X.base CX k f fd ps sp) (hr : Room k X.A) (hb : Binds X.K fd ps []) (hx : ∀ σ, PassesAt CX X σ (E σ)) (ht : eval (.Call (.Attribute o mt apos) [] [] pos) X.env = (do
      let ov ← eval o X.env
      standAt apos.atName
      let (f, first) ← holding [ov] (getMethod ov mt pl)
      callWith pos f first (backTo pos (starEach [] X.env)) (backToKw pos (keywordEach [] X.env)))) : PE X (.Call (.Attribute o mt apos) [] [] pos) (tMt C mt sp E ta tNil) := by
  refine ⟨fun pins s σ H Q I h => PySem.W.methodCall_KW (pl := pl) (thn (he.run pins s σ H _ I h) fun u s1 hu => ?_) ht⟩
  obtain ⟨x, H1, I1, rx, a, dx, fs, ex, ea, l, q⟩ := hu
  subst ex
  obtain rfl : u = Value.ref a := rx
  exact getmeth_ok I1 ea c hm l (PySem.W.callWith_K0 (first := [.ref a]) I1.kIn hm.kp (run_fnS (us := [.ref a]) (vs := [.ref a]) F hr hb (hx σ) I1 (.cons rfl .nil) q))
theorem run_mk {pins : List (Addr × Obj)} {σ : L2.St} {H : Hp} {s : Shared} {Q : VK} {us : List Value} {vs : List V} (M : Mk X.K C f) (F : FnOk X.prog X.w X.K X.mg X.base CX k f fd ps sp) (hr : Room (k + 1) X.A) (hb : Binds X.K fd ps [])
    (hx : PassesAt CX X σ (E σ)) (I : Inv X pins σ H s) (r : Vals vs us) (h : ∀ x dx, H x = none → H dx = none → dx ≠ x → sp (.ref x :: vs) (upd (upd H dx (.own x)) x (.ins C dx [])) (fun v H2 => v = .non ∧ Q (.ref x) H2) (E σ)) :
    wpAny (model X.prog X.w) X.A (call (.ref C) us) (EP X pins σ Q) X.xe s := by
  have I2 := Inv.made (C := C) I
  have hq := h (s.heap.objs.size + 1) s.heap.objs.size (I.hok.fresh (Nat.le_add_right _ 1)) (I.hok.fresh (Nat.le_refl _)) (Nat.ne_of_lt (Nat.lt_add_one _))
  have r2 : Vals (V.ref (s.heap.objs.size + 1) :: vs) (Value.ref (s.heap.objs.size + 1) :: us) := .cons rfl r
  have hl : (Value.ref (s.heap.objs.size + 1) :: us ++ []).length = ps.length := by
    rw [List.append_nil, ← r2.length, F.len _ _ _ _ hq]
  have hb2 := hb _ (Value.ref (s.heap.objs.size + 1) :: us) I2.kIn hl
  rw [List.append_nil] at hb2
  refine wpAny_call (make_map (f := f) I.kIn M.makes M.init (beq_iff_eq.mp M.fn) (codeAny_mono (F.run _ X.stack _ _ ⟨Value.ref (s.heap.objs.size + 1) :: us, []⟩ _ _ _ (E σ) (hr.make C us []) (I2.env0.make C us []) hb2 r2 hq) fun res s' z => ?_))
  match res, z with
  | .error e, z => exact hx pins _ _ e s' I2 z
  | .ok (.ret u), z =>
    obtain ⟨v, H', I3, rv, ev, q3⟩ := I2.after z
    subst ev
    exact ⟨rv, ⟨V.ref (s.heap.objs.size + 1), H', I3, rfl, q3⟩⟩
def tMkS (C : Addr) (sp : Sp) (E : L2.St → XK) (t : TA) : TE := fun σ H Q => t σ H fun vs H1 => ∀ x dx, H1 x = none → H1 dx = none → dx ≠ x → sp (.ref x :: vs) (upd (upd H1 dx (.own x)) x (.ins C dx [])) (fun v H2 => v = .non ∧ Q (.ref x) H2) (E σ)
theorem pe_mk (M : Mk X.K C f) (F : FnOk X.prog X.w X.K X.mg X.base CX k f fd ps sp) (hr : Room (k + 1) X.A) (hg : Gl X x) (hm : X.mg x = some (.ref C)) (hb : Binds X.K fd ps []) (hx : ∀ σ, PassesAt CX X σ (E σ)) (ha : PA X (e :: es) t)
    (hdb : (x == ("__debug__" : Str)) = false) (he : starEach (e :: es) X.env = (false, eval e X.env) :: starEach es X.env) (hpl : (backTo pos (starEach es X.env)).any (·.1) = false) : PE X (.Call (.Name x p) (e :: es) [] pos) (tMkS C sp E t) := by
  refine ⟨fun pins s σ H Q I h => wpAny_Call_Name_kw (ld_glob I hg hm (PySem.W.callWith_K (h₀ := X.base) I.ok.mod.kin M.kp (thn (ha.run pos pins s σ H _ I h) fun us s1 hs => ?_) he hpl) hdb)⟩
  obtain ⟨vs, H1, I1, r, q⟩ := hs
  exact ⟨I1.kIn, run_mk M F hr hb (hx σ) I1 r q⟩
theorem pe_mk0 (M : Mk X.K C f) (F : FnOk X.prog X.w X.K X.mg X.base CX k f fd ps sp) (hr : Room (k + 1) X.A) (hg : Gl X x) (hm : X.mg x = some (.ref C)) (hb : Binds X.K fd ps []) (hx : ∀ σ, PassesAt CX X σ (E σ))
    (hdb : (x == ("__debug__" : Str)) = false) : PE X (.Call (.Name x p) [] [] pos) (tMkS C sp E tNil) :=
  ⟨fun pins s σ H Q I h => wpAny_Call_Name_kw (ld_glob I hg hm (PySem.W.callWith_K0 I.kIn M.kp (run_mk (us := []) M F hr hb (hx σ) I .nil h)) hdb)⟩
end

/-! ### their denotations -/
theorem FsOk.getN {g : G} {n : Nat} : ∀ {vs : List (Str × V)} {ws : List (Str × FV)}, FsOk g n vs ws → ∀ {f : Str}, ws.lookup f = none → vs.lookup f = none
  | _, _, .nil, _, _ => rfl
  | _, _, .cons (f := f0) h t z, f, e => by
    by_cases c : f = f0
    · subst c; rw [look_eq] at e; cases e
    · rw [look_ne _ _ c] at e ⊢
      exact FsOk.getN t e
/-- o.m(..) -/
def eMt (C mt : Str) (fo : En → M D) (f : Fn) (fs : En → M (List D)) : En → M D := fun env => M.bind (fo env) fun x => objF C x fun _ ob => if (ob.fs.lookup mt).isNone = true then M.bind (fs env) fun ds => M.bind (f (x :: ds)) fun r => M.ret r.d else M.bad
def oMt (C mt : Str) (fo : En → M D) (f : Fn) (fs : En → M (List D)) : En → M (List D) := fun env => M.bind (fo env) fun x => objF C x fun _ ob => if (ob.fs.lookup mt).isNone = true then M.bind (fs env) fun ds => M.bind (f (x :: ds)) fun r => match r with
    | .o xs => M.ret xs
    | .f _ => M.bad
  else M.bad
def mkO (C : Str) (f : Fn) (ds : List D) : M D := fun S => M.bind (f (.obj S.length :: ds)) (fun r => match r with
  | .f .non => M.ret (.obj S.length)
  | _ => M.bad) (S ++ [⟨C, []⟩])
/-- C(..) -/
def eMk (C : Str) (f : Fn) (fs : En → M (List D)) : En → M D := fun env => M.bind (fs env) fun ds => mkO C f ds
def Pi.add (p : Pi) (n : Nat) (x : Addr) : Pi := ⟨fun l => match l with
  | .ob k => if k = n then some x else p.at_ (.ob k)
  | .fl k f => p.at_ (.fl k f), p.sc⟩
section
variable {m m' : Bool} {X : Cx} {W : WX} {ca : Ct} {a e o : Expr} {es : List Expr} {fo : En → M D} {fs : En → M (List D)} {pos p apos : Pos} {k : Nat} {f : Addr} {fd : FuncData} {ps : List Str} {fn : Fn} {x C mt : Str}
theorem de_call0 (F : FnD X.prog X.w X.K X.mg X.base k f fd ps m' ca fn) (hm' : Fits m m') (hn : 0 = ps.length) (hr : Room k X.A) (hm : X.mg x = some (.ref f)) (hk : PySem.W.keepIn X.K (.ref f) = true) (hb : Binds X.K fd ps []) (tk : Tk X W)
    (hg : Gl X x := by rfl) (hdb : (x == ("__debug__" : Str)) = false := by decide) : DE m X W ca (.Call (.Name x p) [] [] pos) (eFn fn aNil) := by
  refine ⟨_, pe_c0 (E := WE W) F hr hg hm hk hb (fun σ => tkPass tk σ) hdb, fun H0 g S σ env hS hE Q h => ?_⟩
  have h2 := seqE h
  exact spOf_run (by rw [← hn]; rfl) hm' hS .nil (sat_mono (sat_bind (h2 g (Ext.refl g))) (fun r S2 q => q) fun c S2 q => q)
theorem do_call0 (F : FnD X.prog X.w X.K X.mg X.base k f fd ps m' ca fn) (hm' : Fits m m') (hn : 0 = ps.length) (hr : Room k X.A) (hm : X.mg x = some (.ref f)) (hk : PySem.W.keepIn X.K (.ref f) = true) (hb : Binds X.K fd ps []) (tk : Tk X W)
    (hg : Gl X x := by rfl) (hdb : (x == ("__debug__" : Str)) = false := by decide) : DO m X W ca (.Call (.Name x p) [] [] pos) (oFn fn aNil) := by
  refine ⟨_, pe_c0 (E := WE W) F hr hg hm hk hb (fun σ => tkPass tk σ) hdb, fun H0 g S σ env hS hE Q h => ?_⟩
  have h2 := seqO h
  refine spOf_runO (by rw [← hn]; rfl) hm' hS .nil (sat_mono (sat_bind (h2 g (Ext.refl g))) (fun r S2 q => ?_) fun c S2 q => q)
  cases r with
  | o xs => exact ⟨xs, rfl, q⟩
  | f d => exact q.elim
theorem mt_go {g1 : G} {S1 : Store} {σ : L2.St} {n : Nat} {ob : Ob} {v : V} (c : Cls X.K (ca C)) (s1 : SOk ca g1 S1) (eS : S1[n]? = some ob) (ec : ob.cls = C) (r1 : Rp g1.F g1.p v (.obj n)) (hno : (ob.fs.lookup mt).isNone = true) (hC : (C == ("" : Str)) = false) :
    ∃ a dx fs, v = .ref a ∧ g1.H a = some (.ins (ca C) dx fs) ∧ fs.lookup mt = none := by
  obtain ⟨a, dx, gs, rfl, h1, h2, h3⟩ := s1.ob eS r1 ec hC
  exact ⟨a, dx, gs, rfl, by rw [← ec]; exact h2, h3.getN (Option.isNone_iff_eq_none.mp hno)⟩
theorem de_mt {pl : Sem Bool} (ho : DE m X W ca o fo) (c : Cls X.K (ca C)) (hme : Meth X.K (ca C) mt f) (F : FnD X.prog X.w X.K X.mg X.base k f fd ps m' ca fn) (hm' : Fits m m') (hn : (e :: es).length + 1 = ps.length) (hr : Room k X.A) (hb : Binds X.K fd ps []) (tk : Tk X W) (ha : DA m X W ca (e :: es) fs)
    (hln : ∀ env S ds S', fs env S = .ok ds S' → ds.length = (e :: es).length) (hst : starEach (e :: es) X.env = (false, eval e X.env) :: starEach es X.env := by rfl) (hpl : (backTo pos (starEach es X.env)).any (·.1) = false := by rfl) (ht : eval (.Call (.Attribute o mt apos) (e :: es) [] pos) X.env = (do
      let ov ← eval o X.env
      standAt apos.atName
      let (f, first) ← holding [ov] (getMethod ov mt pl)
      callWith pos f first (backTo pos (starEach (e :: es) X.env)) (backToKw pos (keywordEach [] X.env))) := by rfl) (hC : (C == ("" : Str)) = false := by decide) : DE m X W ca (.Call (.Attribute o mt apos) (e :: es) [] pos) (eMt C mt fo fn fs) := by
  obtain ⟨to, po, ko⟩ := ho
  obtain ⟨t, pa, ka⟩ := ha
  refine ⟨_, pe_mt (E := WE W) po c hme F hr hb (fun σ => tkPass tk σ) pa hst hpl ht, fun H0 g S σ env hS hE Q h => ?_⟩
  refine ko H0 g S σ env hS hE _ (sat_mono (seqE h) (fun y S1 z g1 v e1 s1 r1 => ?_) fun _ _ q => q)
  obtain ⟨n, ob, rfl, eS, ec, z⟩ := objF_get (z g1 e1)
  by_cases hno : (ob.fs.lookup mt).isNone = true
  · rw [if_pos hno] at z
    obtain ⟨a, dx, gs, rfl, h2, h3⟩ := mt_go (σ := σ) c s1 eS ec r1 hno hC
    refine ⟨a, dx, gs, rfl, h2, h3, ?_⟩
    cases e2 : fs env S1 with
    | bad => unfold M.bind at z; rw [e2] at z; exact z.elim
    | exc c S2 =>
      refine ka H0 g1 S1 σ env s1 (hE.ext e1) _ ?_
      rw [e2]
      unfold M.bind at z
      rw [e2] at z
      exact z
    | ok ds S2 =>
      refine ka H0 g1 S1 σ env s1 (hE.ext e1) _ ?_
      have z2 := seqE z
      rw [e2] at z2 ⊢
      intro g2 vs x2 s2 r2
      exact spOf_run (by rw [List.length_cons, r2.length, hln _ _ _ _ e2]; exact hn) hm' s2 (.cons (x2.rp r1) r2) (sat_mono (sat_bind (z2 g2 x2)) (fun r S2 q => q) fun c S2 q => q)
  · rw [if_neg hno] at z; exact z.elim
theorem do_mt {pl : Sem Bool} (ho : DE m X W ca o fo) (c : Cls X.K (ca C)) (hme : Meth X.K (ca C) mt f) (F : FnD X.prog X.w X.K X.mg X.base k f fd ps m' ca fn) (hm' : Fits m m') (hn : (e :: es).length + 1 = ps.length) (hr : Room k X.A) (hb : Binds X.K fd ps []) (tk : Tk X W) (ha : DA m X W ca (e :: es) fs)
    (hln : ∀ env S ds S', fs env S = .ok ds S' → ds.length = (e :: es).length) (hst : starEach (e :: es) X.env = (false, eval e X.env) :: starEach es X.env := by rfl) (hpl : (backTo pos (starEach es X.env)).any (·.1) = false := by rfl) (ht : eval (.Call (.Attribute o mt apos) (e :: es) [] pos) X.env = (do
      let ov ← eval o X.env
      standAt apos.atName
      let (f, first) ← holding [ov] (getMethod ov mt pl)
      callWith pos f first (backTo pos (starEach (e :: es) X.env)) (backToKw pos (keywordEach [] X.env))) := by rfl) (hC : (C == ("" : Str)) = false := by decide) : DO m X W ca (.Call (.Attribute o mt apos) (e :: es) [] pos) (oMt C mt fo fn fs) := by
  obtain ⟨to, po, ko⟩ := ho
  obtain ⟨t, pa, ka⟩ := ha
  refine ⟨_, pe_mt (E := WE W) po c hme F hr hb (fun σ => tkPass tk σ) pa hst hpl ht, fun H0 g S σ env hS hE Q h => ?_⟩
  refine ko H0 g S σ env hS hE _ (sat_mono (seqO h) (fun y S1 z g1 v e1 s1 r1 => ?_) fun _ _ q => q)
  obtain ⟨n, ob, rfl, eS, ec, z⟩ := objF_get (z g1 e1)
  by_cases hno : (ob.fs.lookup mt).isNone = true
  · rw [if_pos hno] at z
    obtain ⟨a, dx, gs, rfl, h2, h3⟩ := mt_go (σ := σ) c s1 eS ec r1 hno hC
    refine ⟨a, dx, gs, rfl, h2, h3, ?_⟩
    cases e2 : fs env S1 with
    | bad => unfold M.bind at z; rw [e2] at z; exact z.elim
    | exc c S2 =>
      refine ka H0 g1 S1 σ env s1 (hE.ext e1) _ ?_
      rw [e2]
      unfold M.bind at z
      rw [e2] at z
      exact z
    | ok ds S2 =>
      refine ka H0 g1 S1 σ env s1 (hE.ext e1) _ ?_
      have z2 := seqO z
      rw [e2] at z2 ⊢
      intro g2 vs x2 s2 r2
      refine spOf_runO (by rw [List.length_cons, r2.length, hln _ _ _ _ e2]; exact hn) hm' s2 (.cons (x2.rp r1) r2) (sat_mono (sat_bind (z2 g2 x2)) (fun r S2 q => ?_) fun c S2 q => q)
      cases r with
      | o xs => exact ⟨xs, rfl, q⟩
      | f d => exact q.elim
  · rw [if_neg hno] at z; exact z.elim
theorem de_mt0 {pl : Sem Bool} (ho : DE m X W ca o fo) (c : Cls X.K (ca C)) (hme : Meth X.K (ca C) mt f) (F : FnD X.prog X.w X.K X.mg X.base k f fd ps m' ca fn) (hm' : Fits m m') (hn : 1 = ps.length) (hr : Room k X.A) (hb : Binds X.K fd ps []) (tk : Tk X W)
    (ht : eval (.Call (.Attribute o mt apos) [] [] pos) X.env = (do
      let ov ← eval o X.env
      standAt apos.atName
      let (f, first) ← holding [ov] (getMethod ov mt pl)
      callWith pos f first (backTo pos (starEach [] X.env)) (backToKw pos (keywordEach [] X.env))) := by rfl) (hC : (C == ("" : Str)) = false := by decide) : DE m X W ca (.Call (.Attribute o mt apos) [] [] pos) (eMt C mt fo fn aNil) := by
  obtain ⟨to, po, ko⟩ := ho
  refine ⟨_, pe_mt0 (E := WE W) po c hme F hr hb (fun σ => tkPass tk σ) ht, fun H0 g S σ env hS hE Q h => ?_⟩
  refine ko H0 g S σ env hS hE _ (sat_mono (seqE h) (fun y S1 z g1 v e1 s1 r1 => ?_) fun _ _ q => q)
  obtain ⟨n, ob, rfl, eS, ec, z⟩ := objF_get (z g1 e1)
  by_cases hno : (ob.fs.lookup mt).isNone = true
  · rw [if_pos hno] at z
    obtain ⟨a, dx, gs, rfl, h2, h3⟩ := mt_go (σ := σ) c s1 eS ec r1 hno hC
    refine ⟨a, dx, gs, rfl, h2, h3, ?_⟩
    have z2 := seqE z
    exact spOf_run (by rw [← hn]; rfl) hm' s1 (.cons r1 .nil) (sat_mono (sat_bind (z2 g1 (Ext.refl g1))) (fun r S2 q => q) fun c S2 q => q)
  · rw [if_neg hno] at z; exact z.elim
theorem do_mt0 {pl : Sem Bool} (ho : DE m X W ca o fo) (c : Cls X.K (ca C)) (hme : Meth X.K (ca C) mt f) (F : FnD X.prog X.w X.K X.mg X.base k f fd ps m' ca fn) (hm' : Fits m m') (hn : 1 = ps.length) (hr : Room k X.A) (hb : Binds X.K fd ps []) (tk : Tk X W)
    (ht : eval (.Call (.Attribute o mt apos) [] [] pos) X.env = (do
      let ov ← eval o X.env
      standAt apos.atName
      let (f, first) ← holding [ov] (getMethod ov mt pl)
      callWith pos f first (backTo pos (starEach [] X.env)) (backToKw pos (keywordEach [] X.env))) := by rfl) (hC : (C == ("" : Str)) = false := by decide) : DO m X W ca (.Call (.Attribute o mt apos) [] [] pos) (oMt C mt fo fn aNil) := by
  obtain ⟨to, po, ko⟩ := ho
  refine ⟨_, pe_mt0 (E := WE W) po c hme F hr hb (fun σ => tkPass tk σ) ht, fun H0 g S σ env hS hE Q h => ?_⟩
  refine ko H0 g S σ env hS hE _ (sat_mono (seqO h) (fun y S1 z g1 v e1 s1 r1 => ?_) fun _ _ q => q)
  obtain ⟨n, ob, rfl, eS, ec, z⟩ := objF_get (z g1 e1)
  by_cases hno : (ob.fs.lookup mt).isNone = true
  · rw [if_pos hno] at z
    obtain ⟨a, dx, gs, rfl, h2, h3⟩ := mt_go (σ := σ) c s1 eS ec r1 hno hC
    refine ⟨a, dx, gs, rfl, h2, h3, ?_⟩
    have z2 := seqO z
    refine spOf_runO (by rw [← hn]; rfl) hm' s1 (.cons r1 .nil) (sat_mono (sat_bind (z2 g1 (Ext.refl g1))) (fun r S2 q => ?_) fun c S2 q => q)
    cases r with
    | o xs => exact ⟨xs, rfl, q⟩
    | f d => exact q.elim
  · rw [if_neg hno] at z; exact z.elim
/-- a new object of class C -/
theorem new_ob {g : G} {S : Store} (hS : SOk ca g S) {a dx : Addr} (n1 : g.H a = none) (n2 : g.H dx = none) (ne : dx ≠ a) (C : Str) (hC : (C == ("" : Str)) = false) :
    SOk ca ⟨g.F, upd (upd g.H dx (.own a)) a (.ins (ca C) dx []), g.p.add S.length a⟩ (S ++ [⟨C, []⟩]) ∧ Ext false g ⟨g.F, upd (upd g.H dx (.own a)) a (.ins (ca C) dx []), g.p.add S.length a⟩ := by
  have keep : ∀ b u, g.H b = some u → upd (upd g.H dx (.own a)) a (.ins (ca C) dx []) b = some u := fun b u h => by rw [upd_ne (ne_of_none h n1), upd_ne (ne_of_none h n2)]; exact h
  have nob : g.p (.ob S.length) = none := by
    cases c : g.p (.ob S.length) with
    | none => rfl
    | some b => exact absurd (hS.lt _ _ c) (Nat.lt_irrefl _)
  have old : ∀ l b, (g.p.add S.length a) l = some b → g.p l = some b ∨ (l = .ob S.length ∧ b = a) := fun l b h => by
    cases l with
    | fl k f => exact .inl h
    | ob k =>
      have h : (if k = S.length then some a else g.p (.ob k)) = some b := h
      by_cases c : k = S.length
      · rw [if_pos c] at h; cases h; exact .inr ⟨by rw [c], rfl⟩
      · rw [if_neg c] at h; exact .inl h
  have new : ∀ l b, g.p l = some b → (g.p.add S.length a) l = some b := fun l b h => by
    cases l with
    | fl k f => exact h
    | ob k =>
      show (if k = S.length then some a else g.p (.ob k)) = some b
      rw [if_neg (fun c => by rw [c, nob] at h; cases h)]; exact h
  have na : ∀ l, g.p l ≠ some a := hS.nop n1
  have le : PiLe g.p (g.p.add S.length a) := ⟨fun n b h => new _ _ h, fun _ _ h => h⟩
  refine ⟨⟨fun b u h => keep _ _ (hS.same _ _ h), fun l l' b h1 h2 => ?_, fun l b h => ?_, fun l b h => ?_, fun n ob h hc => ?_, fun b ns h => (hS.sc b ns h).keep fun b o u h => keep _ _ h, fun n b h => ?_, fun n f b h => ?_, fun n ob h hc => ?_⟩, Same.refl _, fun b u h hf hp => ⟨keep _ _ h, hf, fun l z => ?_⟩, le, fun b h => ?_, (fun h => nomatch h), fun b o u h => keep _ _ h⟩
  · rcases old _ _ h1 with q1 | ⟨q1, r1⟩ <;> rcases old _ _ h2 with q2 | ⟨q2, r2⟩
    · exact hS.inj _ _ _ q1 q2
    · exact absurd (by rw [← r2]; exact q1) (na l)
    · exact absurd (by rw [← r1]; exact q2) (na l')
    · rw [q1, q2]
  · rcases old _ _ h with q | ⟨q, r⟩
    · exact hS.out _ _ q
    · rw [r]; exact hS.free n1
  · rcases old _ _ h with q | ⟨q, r⟩
    · obtain ⟨u, z⟩ := hS.live _ _ q
      exact ⟨u, keep _ _ z⟩
    · rw [r]; exact ⟨_, upd_same⟩
  · by_cases c : n < S.length
    · rw [List.getElem?_append_left c] at h
      obtain ⟨b, dy, gs, h1, h2, h3⟩ := hS.obs n ob h hc
      refine ⟨b, dy, gs, new _ _ h1, keep _ _ h2, FsOk.kp (g := g) (g' := ⟨g.F, upd (upd g.H dx (.own a)) a (.ins (ca C) dx []), g.p.add S.length a⟩) (Same.refl _) le new (fun l b u _ h => keep _ _ h) h3⟩
    · rw [List.getElem?_append_right (by omega)] at h
      have e0 : n - S.length = 0 := by
        cases d : n - S.length with
        | zero => rfl
        | succ j => rw [d] at h; simp at h
      rw [e0] at h
      cases h
      have en : n = S.length := by omega
      subst en
      exact ⟨a, dx, [], by show (if S.length = S.length then some a else _) = _; rw [if_pos rfl], upd_same, .nil⟩
  · rw [List.length_append]
    rcases old _ _ h with q | ⟨q, r⟩
    · exact Nat.lt_of_lt_of_le (hS.lt _ _ q) (Nat.le_add_right _ _)
    · cases q; simp
  · rw [List.length_append]
    rcases old _ _ h with q | ⟨q, r⟩
    · exact Nat.lt_of_lt_of_le (hS.lf _ _ _ q) (Nat.le_add_right _ _)
    · cases q
  · by_cases c : n < S.length
    · rw [List.getElem?_append_left c] at h
      obtain ⟨b, h1, h2⟩ := hS.raw n ob h hc
      exact ⟨b, new _ _ h1, RawAt.mv (g := g) (g' := ⟨g.F, upd (upd g.H dx (.own a)) a (.ins (ca C) dx []), g.p.add S.length a⟩) (Same.refl _) le (fun o x => keep _ _ x) h2⟩
    · rw [List.getElem?_append_right (by omega)] at h
      have e0 : n - S.length = 0 := by
        cases d : n - S.length with
        | zero => rfl
        | succ j => rw [d] at h; simp at h
      rw [e0] at h
      cases h
      exact absurd hc (beq_eq_false_iff_ne.mp hC)
  · rcases old _ _ z with q | ⟨q, r⟩
    · exact hp _ q
    · rw [r, n1] at h; cases h
  · cases c : g.H b with
    | none => rfl
    | some u =>
      have h : upd (upd g.H dx (.own a)) a (.ins (ca C) dx []) b = none := h
      rw [keep _ _ c] at h; cases h
theorem mk_go {g : G} {S : Store} {σ : L2.St} {Q : VK} {vs : List V} {ds : List D} (hS : SOk ca g S) (hC : (C == ("" : Str)) = false) (hl : (vs.length + 1) = ps.length) (r : RpA g.F g.p vs ds) (z : (mkO C fn ds S).sat (okE false ca g Q) (exE false ca W g σ)) :
    ∀ x dx, g.H x = none → g.H dx = none → dx ≠ x → spOf m' ca ps.length fn (.ref x :: vs) (upd (upd g.H dx (.own x)) x (.ins (ca C) dx [])) (fun v H2 => v = .non ∧ Q (.ref x) H2) (WE W σ) := fun x dx n1 n2 ne => by
  obtain ⟨s1, e1⟩ := new_ob (ca := ca) hS n1 n2 ne C hC
  have px : (g.p.add S.length x) (.ob S.length) = some x := by show (if S.length = S.length then some x else _) = _; rw [if_pos rfl]
  refine ⟨hl, _, _, .obj S.length :: ds, rfl, s1, .cons (.obj px) (e1.rpA r), sat_mono (sat_bind z) (fun res S' q g' v e' s' h => ?_) fun c S' q g' e' s' => q g' (e1.trans e'.f) s'⟩
  cases res with
  | o xs => exact q.elim
  | f d =>
    cases d with
    | non =>
      have e' : Ext false _ g' := e'.f
      have h : Rp g'.F g'.p v .non := h
      cases h
      exact ⟨rfl, (show okE false ca g Q (.obj S.length) S' from q) g' _ (e1.trans e') s' (.obj (e'.obs.1 _ _ px))⟩
    | _ => exact q.elim
theorem de_mk (Mm : Mk X.K (ca C) f) (F : FnD X.prog X.w X.K X.mg X.base k f fd ps m' ca fn) (hn : (e :: es).length + 1 = ps.length) (hr : Room (k + 1) X.A) (hm : X.mg C = some (.ref (ca C))) (hb : Binds X.K fd ps []) (tk : Tk X W) (ha : DA false X W ca (e :: es) fs)
    (hln : ∀ env S ds S', fs env S = .ok ds S' → ds.length = (e :: es).length) (hg : Gl X C := by rfl) (hdb : (C == ("__debug__" : Str)) = false := by decide) (he : starEach (e :: es) X.env = (false, eval e X.env) :: starEach es X.env := by rfl) (hpl : (backTo pos (starEach es X.env)).any (·.1) = false := by rfl) (hC : (C == ("" : Str)) = false := by decide) :
    DE false X W ca (.Call (.Name C p) (e :: es) [] pos) (eMk C fn fs) := by
  obtain ⟨t, pa, ka⟩ := ha
  refine ⟨_, pe_mk (E := WE W) Mm F hr hg hm hb (fun σ => tkPass tk σ) pa hdb he hpl, fun H0 g S σ env hS hE Q h => ?_⟩
  cases e1 : fs env S with
  | bad => unfold eMk M.bind at h; rw [e1] at h; exact h.elim
  | exc c S1 =>
    refine ka H0 g S σ env hS hE _ ?_
    rw [e1]
    unfold eMk M.bind at h
    rw [e1] at h
    exact h
  | ok ds S1 =>
    refine ka H0 g S σ env hS hE _ ?_
    have h2 := seqE h
    rw [e1] at h2 ⊢
    intro g1 vs e2 s1 r1
    exact mk_go s1 hC (by rw [r1.length, hln _ _ _ _ e1]; exact hn) r1 (h2 g1 e2)
theorem de_mk0 (Mm : Mk X.K (ca C) f) (F : FnD X.prog X.w X.K X.mg X.base k f fd ps m' ca fn) (hn : 1 = ps.length) (hr : Room (k + 1) X.A) (hm : X.mg C = some (.ref (ca C))) (hb : Binds X.K fd ps []) (tk : Tk X W)
    (hg : Gl X C := by rfl) (hdb : (C == ("__debug__" : Str)) = false := by decide) (hC : (C == ("" : Str)) = false := by decide) : DE false X W ca (.Call (.Name C p) [] [] pos) (eMk C fn aNil) := by
  refine ⟨_, pe_mk0 (E := WE W) Mm F hr hg hm hb (fun σ => tkPass tk σ) hdb, fun H0 g S σ env hS hE Q h => ?_⟩
  exact mk_go (vs := []) hS hC (by rw [← hn]; rfl) .nil ((seqE h) g (Ext.refl g))
end
end Dn

namespace Dn
open PySem L2 PyProof.Rows
/-! ### raise -/
/-- the facts of an own class of errors -/
structure ExOk (K : PySem.W.Frag) (mg : Str → Option Value) (c : Str) (C : Addr) : Prop where
  q : PySem.W.excIn K C [.type "ValueError", .type "Exception", .type "BaseException", .type "object"] "ValueError.__new__" = true
  gC : mg c = some (.ref C)
  kC : PySem.W.keepIn K (.ref C) = true
  sub : PySem.W.subIn K (.ref C) (.type "BaseException") = some true
  ty : PySem.W.typeIn K (.ref C) = some (.type "type")
  ic : PySem.W.isClsIn K C = true
theorem exm_own {K : PySem.W.Frag} {mg : Str → Option Value} {x : Str} {C : Addr} {cls : Value} {b : Bool} (h : ExOk K mg x C) (s : PySem.W.subIn K cls (.ref C) = some b) : PySem.W.exmOne K cls (.ref C) = some b := by
  have i : (PySem.W.clsIn K C).isSome = true := h.ic
  unfold PySem.W.exmOne PySem.W.kitCls
  simp [h.sub, h.ty, i, s]
def sRaise (c : Str) : En → M Fl := fun env => M.ret (.ex c env)
section
variable {m : Bool} {X : Cx} {W : WX} {ca : Ct} {fb : En → M Fl}
theorem ds_raise {c msg : Str} {j : Nat} {p p2 pos pos' : Pos} (h : ExOk X.K X.mg c (ca c)) (tk : Tk X W) (hc : X.calm = true := by rfl) (hg : Gl X c := by rfl) (hdb : (c == ("__debug__" : Str)) = false := by decide) : DS m X W ca (.Raise (some (.Call (.Name c p) [.Constant (.str msg) j p2] [] pos)) none pos') (sRaise c) :=
  ⟨_, L2N.ps_raise hc tk (L2N.pmk_own PySem.F.excBase_ValueError h.q h.gC h.kC (raises_own h.sub h.ty) hg hdb), fun g0 g S σ env e0 hS hE D z => z g σ e0 (Mo.refl g) hS hE⟩

/-! ### try -/
def tCan (m : Bool) (ca : Ct) (W : WX) (f : En → M Fl) : TS := fun D σ H => ∃ g0 g S env, g.H = H ∧ Ext m g0 g ∧ SOk ca g S ∧ EnvOk g0.H g σ env ∧ (f env S).sat (okS m ca W g0 g D) noX
theorem DSs.can {sts : List Stmt} {f : En → M Fl} (h : DSs m X W ca sts f) : PSs X sts (tCan m ca W f) := by
  obtain ⟨t, p, k⟩ := h
  exact ⟨fun pins s σ H D I z => p.run pins s σ H D I (by
    obtain ⟨g0, g, S, env, rfl, e0, hS, hE, q⟩ := z
    exact k g0 g S σ env e0 hS hE D q)⟩
/-- what never raises -/
def noEx (c : M Fl) : M Fl := M.bind c fun fl => match fl with
  | .ex _ _ => M.bad
  | o => M.ret o
theorem noEx_sat {c : M Fl} {g0 g : G} {D : Ends} {S : Store} (h : (noEx c S).sat (okS m ca W g0 g D) noX) : (c S).sat (okS m ca W0 g0 g D) noX :=
  sat_mono (sat_bind h) (fun fl S' q => by
    cases fl with
    | ex c env => exact q.elim
    | nx env => exact q
    | rt d => exact q
    | rtO xs => exact q
    | bk env => exact q
    | ct env => exact q) fun _ _ q => q
/-- try: .. except C: .. -/
def sTry (isa : Str → Option Bool) (fb fs : En → M Fl) : En → M Fl := fun env => M.bind (fb env) fun fl => match fl with
  | .ex c env' => match isa c with
    | some true => noEx (fs env')
    | some false => M.ret (.ex c env')
    | none => M.bad
  | o => M.ret o
theorem ds_try {x : Str} {C : Addr} {b0 : Stmt} {body suite : List Stmt} {np pos pos' : Pos} {isa : Str → Option Bool} {fs : En → M Fl} (hc : Names X x (.ref C)) (hi : ∀ c b, isa c = some b → PySem.W.exmOne X.K (.ref (ca c)) (.ref C) = some b) (tk : Tk X W)
    (hb : ∀ (W : WX) (pn : List (Addr × Obj)) (xe : Value → Shared → Prop), Tk (X.tr pn xe) W → PassesOwn (model X.prog X.w) X.A X.env xe → DSs m (X.tr pn xe) W ca body fb)
    (hsu : ∀ (a : Addr) (oe : Obj) (pn : List (Addr × Obj)), DSs m (X.suite a ((a, oe) :: pn)) W0 ca (b0 :: suite) fs)
    (hs : X.stack = X.env :: X.outer := by rfl) (hf : X.env.frame = some X.env.locals := by rfl) : DS m X W ca (.Try body [.ExceptHandler (some (.Name x np)) none (b0 :: suite) pos'] [] [] pos) (sTry isa fb fs) := by
  refine ⟨_, L2N.ps_try_many (tb := fun W => tCan m ca W fb) (l := [(.ref C, fun _ _ _ => tCan m ca W0 fs)]) hs hf tk (fun W pn xe tk hp => (hb W pn xe tk hp).can) (.cons hc (fun a oe cls d pn _ _ => (hsu a oe pn).can) .nil), fun g0 g S σ env e0 hS hE D h => ?_⟩
  refine ⟨g0, g, S, env, rfl, e0, hS, hE, sat_mono (sat_bind h) (fun fl S' q => ?_) fun _ _ q => q⟩
  cases fl with
  | ex c env' =>
    dsimp only at q
    intro g' σ' e' mo s' hE'
    cases ec : isa c with
    | none => rw [ec] at q; exact q.elim
    | some b =>
      rw [ec] at q
      refine ⟨b, hi c b ec, fun eb a ha => ?_, fun eb => ?_⟩
      · subst eb
        exact ⟨g0, g', S', env', rfl, e', s', hE', sat_mono (noEx_sat q) (fun fl S2 q => q.mono mo) fun _ _ q => q⟩
      · subst eb
        exact (show okS m ca W g0 g D (.ex c env') S' from q) g' σ' e' mo s' hE'
  | nx env => exact q
  | rt d => exact q
  | rtO xs => exact q
  | bk env => exact q
  | ct env => exact q

/-! ### try: .. except C as n: .. -/
open Classical in
noncomputable def anyA {α : Type} (X : Addr → R α) : R α := if h : ∃ r, ∀ a, X a = r then h.choose else .bad
theorem anyA_const {α : Type} (r : R α) : anyA (fun _ => r) = r := by
  have h : ∃ r', ∀ _ : Addr, r = r' := ⟨r, fun _ => rfl⟩
  unfold anyA
  rw [dif_pos h]
  exact (h.choose_spec 0).symm
theorem anyA_sat {α : Type} {X : Addr → R α} {P : α → Store → Prop} {E : Str → Store → Prop} (h : (anyA X).sat P E) (a : Addr) : (X a).sat P E := by
  unfold anyA at h
  by_cases c : ∃ r, ∀ a, X a = r
  · rw [dif_pos c] at h
    rw [c.choose_spec a]
    exact h
  · rw [dif_neg c] at h; exact h.elim
/-- a slot is emptied behind -/
def dropS (i : Nat) (c : M Fl) : M Fl := M.bind c fun fl => match fl with
  | .nx env => M.ret (.nx (env.set i .u))
  | .bk env => M.ret (.bk (env.set i .u))
  | .ct env => M.ret (.ct (env.set i .u))
  | o => M.ret o
noncomputable def sTryAs (i : Nat) (isa : Str → Option Bool) (fb : En → M Fl) (fs : Addr → Str → En → M Fl) : En → M Fl := fun env => M.bind (fb env) fun fl => match fl with
  | .ex c env' => match isa c with
    | some true => fun S => anyA fun a => dropS i (noEx (fs a c (env'.set i (.x a)))) S
    | some false => M.ret (.ex c env')
    | none => M.bad
  | o => M.ret o
theorem EnvOk.setU {H0 : Hp} {g : G} {σ : L2.St} {env : En} (h : EnvOk H0 g σ env) (i : Nat) (v : Option V) (w : EV) (hw : EvOk H0 g v w) (no : w.own = false) : EnvOk H0 g (σ.set i v) (env.set i w) := by
  refine ⟨by simp [h.len], fun j x y a b => ?_, fun j k x y y' ne a b c d' o o' => ?_⟩
  · by_cases hj : i = j
    · subst hj
      have hi : i < env.length := by
        have := (List.getElem?_eq_some_iff.mp b).1
        simpa using this
      rw [List.getElem?_set_self hi] at b
      rw [List.getElem?_set_self (by rw [h.len]; exact hi)] at a
      cases a; cases b
      exact hw
    · rw [List.getElem?_set_ne hj] at a b
      exact h.at_ j x y a b
  · by_cases hj : i = j
    · subst hj
      have hi : i < env.length := by
        have := (List.getElem?_eq_some_iff.mp c).1
        simpa using this
      rw [List.getElem?_set_self hi] at c
      cases c
      rw [no] at o; cases o
    · by_cases hk : i = k
      · subst hk
        have hi : i < env.length := by
          have := (List.getElem?_eq_some_iff.mp d').1
          simpa using this
        rw [List.getElem?_set_self hi] at d'
        cases d'
        rw [no] at o'; cases o'
      · rw [List.getElem?_set_ne hj] at a c
        rw [List.getElem?_set_ne hk] at b d'
        exact h.apart j k x y y' ne a b c d' o o'
theorem dropS_sat {i : Nat} {c : M Fl} {g0 g : G} {D : Ends} {S : Store} (h : (dropS i (noEx c) S).sat (okS m ca W g0 g D) noX) :
    (c S).sat (okS m ca W0 g0 g { nx := fun σ' H' => D.nx (σ'.set i none) H', rt := D.rt, bk := fun σ' H' => D.bk (σ'.set i none) H', ct := fun σ' H' => D.ct (σ'.set i none) H' }) noX :=
  sat_mono (sat_bind (sat_bind h)) (fun fl S' q => by
    cases fl with
    | ex c env => exact q.elim
    | nx env => exact fun g' σ' a b c d => (show okS m ca W g0 g D (.nx (env.set i .u)) S' from q) g' _ a b c (d.setU i none .u trivial rfl)
    | rt d => exact q
    | rtO xs => exact q
    | bk env => exact fun g' σ' a b c d => (show okS m ca W g0 g D (.bk (env.set i .u)) S' from q) g' _ a b c (d.setU i none .u trivial rfl)
    | ct env => exact fun g' σ' a b c d => (show okS m ca W g0 g D (.ct (env.set i .u)) S' from q) g' _ a b c (d.setU i none .u trivial rfl)) fun _ _ q => q
theorem ds_tryAs {x n : Str} {C : Addr} {b0 : Stmt} {body suite : List Stmt} {np pos pos' : Pos} {isa : Str → Option Bool} {fs : Addr → Str → En → M Fl} (i : Nat) (hN : X.N.Nodup) (hc : Names X x (.ref C)) (hi : ∀ c b, isa c = some b → PySem.W.exmOne X.K (.ref (ca c)) (.ref C) = some b) (tk : Tk X W)
    (hb : ∀ (W : WX) (pn : List (Addr × Obj)) (xe : Value → Shared → Prop), Tk (X.tr pn xe) W → PassesOwn (model X.prog X.w) X.A X.env xe → DSs m (X.tr pn xe) W ca body fb)
    (hsu : ∀ (a : Addr) (oe : Obj) (c : Str) (pn : List (Addr × Obj)), L2N.Zn (.ref (ca c)) none oe → (∃ vs, oe.data = .fields vs) → DSs m (X.suite a ((a, oe) :: pn)) W0 ca (b0 :: suite) (fs a c))
    (hin : X.N[i]? = some n := by rfl) (hln : X.env.kindOf n = some .local := by rfl) (hs : X.stack = X.env :: X.outer := by rfl) (hf : X.env.frame = some X.env.locals := by rfl) : DS m X W ca (.Try body [.ExceptHandler (some (.Name x np)) (some n) (b0 :: suite) pos'] [] [] pos) (sTryAs i isa fb fs) := by
  refine ⟨_, L2N.ps_try_as (tb := fun W => tCan m ca W fb) (ts := fun a cls d D σ H => ∃ c, cls = .ref (ca c) ∧ d = none ∧ tCan m ca W0 (fs a c) D σ H) hs hf hN hin hln hc tk (fun W pn xe tk hp => (hb W pn xe tk hp).can) (fun a oe cls d pn hz hd => ⟨fun pins s σ H D I z => ?_⟩), fun g0 g S σ env e0 hS hE D h => ?_⟩
  · obtain ⟨c, rfl, rfl, z⟩ := z
    exact (hsu a oe c pn hz hd).can.run pins s σ H D I z
  refine ⟨g0, g, S, env, rfl, e0, hS, hE, sat_mono (sat_bind h) (fun fl S' q => ?_) fun _ _ q => q⟩
  cases fl with
  | ex c env' =>
    dsimp only at q
    intro g' σ' e' mo s' hE'
    cases ec : isa c with
    | none => rw [ec] at q; exact q.elim
    | some b =>
      rw [ec] at q
      refine ⟨b, hi c b ec, fun eb a ha => ?_, fun eb => ?_⟩
      · subst eb
        have q := anyA_sat q a
        exact ⟨c, rfl, rfl, g0, g', S', _, rfl, e', s', hE'.setU i _ (.x a) rfl rfl, sat_mono (dropS_sat q) (fun fl S2 q => q.mono mo) fun _ _ q => q⟩
      · subst eb
        exact (show okS m ca W g0 g D (.ex c env') S' from q) g' σ' e' mo s' hE'
  | nx env => exact q
  | rt d => exact q
  | rtO xs => exact q
  | bk env => exact q
  | ct env => exact q
end
end Dn

namespace Dn
open PySem L2 PyProof.Rows
/-! ### the caught error: isinstance, and a def that is handed it -/
theorem hot_suite {X : Cx} {a : Addr} {oe : Obj} {cls : Value} {d : Option Addr} {pn : List (Addr × Obj)} (hz : L2N.Zn cls d oe) (hf : ∃ vs, oe.data = .fields vs) : L2H.HotC (X.suite a ((a, oe) :: pn)) := by
  obtain ⟨vs, hv⟩ := hf
  exact ⟨(a, oe), ⟨rfl, vs, hv, hz.2.2 vs hv⟩, List.mem_cons_self⟩
theorem isin_at {X : Cx} {a C : Addr} {oe : Obj} (hp : (a, oe) ∈ X.pn) (xc : ExcC X.K C) (hz : Zc (.ref C) none oe) (hf : ∃ vs, oe.data = .fields vs) : CallR X (.builtin "isinstance") (rIsE X.K C a) := fun pins s σ H xs us Q I r h => by
  obtain ⟨c, cv, b, rfl, hcv, e, q⟩ := h
  match us, r with
  | [u1, u2], .cons rx (.cons rt .nil) =>
    obtain rfl : u1 = Value.ref a := rx
    obtain rfl : u2 = cv := hcv _ rt
    obtain ⟨hget, -⟩ := I.pin (a, oe) (List.mem_append_left _ hp)
    obtain ⟨vs, hv⟩ := hf
    have J : PySem.W.InstAt s.heap a oe C none := by
      rcases oe with ⟨oc, od, oda, osl⟩
      obtain ⟨rfl, rfl⟩ := hz
      obtain rfl : oda = .fields vs := hv
      exact ⟨hget, rfl, rfl, trivial⟩
    exact PySem.W.kia_one (PySem.W.handS_kitx_exc xc.hg xc.hk xc.hs xc.hd xc.ha xc.hn xc.ht xc.hm) I.kIn J e (fun z => nomatch z) fun tk => ⟨.bl b, H, I.kept (t' := tk) (fun _ _ z => z), rfl, q⟩
/-- isinstance(e, T), e the caught error in slot i -/
def eIsE (i : Nat) (a : Addr) (o : Option Bool) : En → M D := fun env => match env[i]? with
  | some (.x a') => if a' = a then M.lift (o.map D.bl) else M.bad
  | _ => M.bad
theorem eIsE_get {i : Nat} {a : Addr} {o : Option Bool} {env : En} {S : Store} {P : D → Store → Prop} {E : Str → Store → Prop} (h : (eIsE i a o env S).sat P E) : ∃ b, env[i]? = some (.x a) ∧ o = some b ∧ P (.bl b) S := by
  unfold eIsE at h
  cases e : env[i]? with
  | none => rw [e] at h; exact h.elim
  | some w =>
    rw [e] at h
    cases w with
    | x a' =>
      dsimp only at h
      by_cases c : a' = a
      · subst c
        rw [if_pos rfl] at h
        obtain ⟨z, h1, h2⟩ := sat_lift h
        cases o with
        | none => cases h1
        | some b => cases h1; exact ⟨b, rfl, rfl, h2⟩
      · rw [if_neg c] at h; exact h.elim
    | _ => exact h.elim
section
variable {m : Bool} {X : Cx} {W : WX} {ca : Ct} {a : Addr} {oe : Obj} {c n T : Str} {o : Option Bool} {p p1 p2 pos : Pos}
theorem de_isEx {t : TE} (i : Nat) (hp : (a, oe) ∈ X.pn) (hz : Zc (.ref (ca c)) none oe) (hf : ∃ vs, oe.data = .fields vs) (xc : ∀ b, o = some b → ExcC X.K (ca c)) {v : V} {cv : Value} (pT : PE X (.Name T p2) (tC v)) (hv : ∀ u, RelV v u → u = cv) (hk : ∀ b, o = some b → PySem.W.kitOne X.K (.ref (ca c)) cv = some b)
    (hN : X.N[i]? = some n := by rfl) (hvis : Vis X.env.scope n := by first | exact Or.inl rfl | exact Or.inr (Or.inl rfl) | exact Or.inr (Or.inr rfl)) (hd : (n == ("__debug__" : Str)) = false := by decide) (hcd : (n == ("__classdict__" : Str)) = false := by decide)
    (hg : Gl X "isinstance" := by rfl) (hm : X.mg "isinstance" = none := by assumption) (hs : starEach [.Name n p1, .Name T p2] X.env = (false, eval (.Name n p1) X.env) :: starEach [.Name T p2] X.env := by rfl) (hs2 : starEach [.Name T p2] X.env = (false, eval (.Name T p2) X.env) :: starEach [] X.env := by rfl) (hpl : (backTo pos (starEach [.Name T p2] X.env)).any (·.1) = false := by rfl) :
    DE m X W ca (.Call (.Name "isinstance" p) [.Name n p1, .Name T p2] [] pos) (eIsE i a o) := by
  cases e : o with
  | none =>
    refine ⟨fun _ _ _ => False, ⟨fun _ _ _ _ _ _ h => h.elim⟩, fun H0 g S σ env hS hE Q h => ?_⟩
    obtain ⟨b, _, e, _⟩ := eIsE_get h
    cases e
  | some b =>
    refine ⟨_, pe_callB (isin_at hp (xc b e) hz hf) hg hm PyProof.Rows.boot_isinstance (pa_cons (pe_var hN hvis hd hcd) (pa_cons pT pa_nil hs2) hs) (he := hs) (hpl := hpl), fun H0 g S σ env hS hE Q h => ?_⟩
    obtain ⟨b', e1, e2, q⟩ := eIsE_get h
    cases e2
    obtain ⟨v', h1, h2⟩ := hE.get e1
    have h2 : v' = some (.ref a) := h2
    subst h2
    exact ⟨_, h1, v, cv, b, rfl, hv, hk b e, (show okE m ca g Q (.bl b) S from q) g _ (Ext.refl g) hS (.bl b)⟩
/-- T: an own class -/
theorem de_isOwn {CT : Addr} (i : Nat) (hp : (a, oe) ∈ X.pn) (hz : Zc (.ref (ca c)) none oe) (hf : ∃ vs, oe.data = .fields vs) (xc : ∀ b, o = some b → ExcC X.K (ca c)) (hmT : X.mg T = some (.ref CT)) (hk : ∀ b, o = some b → PySem.W.kitOne X.K (.ref (ca c)) (.ref CT) = some b)
    (hgT : Gl X T := by rfl) (hdT : (T == ("__debug__" : Str)) = false := by decide) (hN : X.N[i]? = some n := by rfl) (hvis : Vis X.env.scope n := by first | exact Or.inl rfl | exact Or.inr (Or.inl rfl) | exact Or.inr (Or.inr rfl)) (hd : (n == ("__debug__" : Str)) = false := by decide) (hcd : (n == ("__classdict__" : Str)) = false := by decide)
    (hg : Gl X "isinstance" := by rfl) (hm : X.mg "isinstance" = none := by assumption) (hs : starEach [.Name n p1, .Name T p2] X.env = (false, eval (.Name n p1) X.env) :: starEach [.Name T p2] X.env := by rfl) (hs2 : starEach [.Name T p2] X.env = (false, eval (.Name T p2) X.env) :: starEach [] X.env := by rfl) (hpl : (backTo pos (starEach [.Name T p2] X.env)).any (·.1) = false := by rfl) :
    DE m X W ca (.Call (.Name "isinstance" p) [.Name n p1, .Name T p2] [] pos) (eIsE i a o) :=
  de_isEx (t := fun _ _ _ => False) i hp hz hf xc (v := .ref CT) (cv := .ref CT) (pe_glob (v := .ref CT) hgT hmT rfl hdT) (fun u h => h) hk hN hvis hd hcd hg hm hs hs2 hpl
/-- T: a class of the language -/
theorem de_isBlt {TB : String} (i : Nat) (hp : (a, oe) ∈ X.pn) (hz : Zc (.ref (ca c)) none oe) (hf : ∃ vs, oe.data = .fields vs) (xc : ∀ b, o = some b → ExcC X.K (ca c)) (hmT : X.mg T = none) (hv2 : bootBuiltins T = some (.type TB)) (hk : ∀ b, o = some b → PySem.W.kitOne X.K (.ref (ca c)) (.type TB) = some b)
    (hgT : Gl X T := by rfl) (hnT : T ≠ "__name__" := by decide) (hdT : (T == ("__debug__" : Str)) = false := by decide) (hN : X.N[i]? = some n := by rfl) (hvis : Vis X.env.scope n := by first | exact Or.inl rfl | exact Or.inr (Or.inl rfl) | exact Or.inr (Or.inr rfl)) (hd : (n == ("__debug__" : Str)) = false := by decide) (hcd : (n == ("__classdict__" : Str)) = false := by decide)
    (hg : Gl X "isinstance" := by rfl) (hm : X.mg "isinstance" = none := by assumption) (hs : starEach [.Name n p1, .Name T p2] X.env = (false, eval (.Name n p1) X.env) :: starEach [.Name T p2] X.env := by rfl) (hs2 : starEach [.Name T p2] X.env = (false, eval (.Name T p2) X.env) :: starEach [] X.env := by rfl) (hpl : (backTo pos (starEach [.Name T p2] X.env)).any (·.1) = false := by rfl) :
    DE m X W ca (.Call (.Name "isinstance" p) [.Name n p1, .Name T p2] [] pos) (eIsE i a o) :=
  de_isEx (t := fun _ _ _ => False) i hp hz hf xc (v := .ty TB) (cv := .type TB) (pe_bltn (v := .ty TB) hgT hmT hv2 rfl hnT hdT) (fun u h => h) hk hN hvis hd hcd hg hm hs hs2 hpl
end
/-- what a def gives that is handed the error -/
def fnX (n : Nat) (dn : Addr → Str → En → M Fl) (a : Addr) (c : Str) : M Res := M.bind (quiet (dn a c (.x a :: List.replicate (n - 1) .u))) fun fl => match fl with
  | .nx _ => M.ret (.f .non)
  | .rt d => M.ret (.f d)
  | .rtO xs => M.ret (.o xs)
  | _ => M.bad
def eFnX (i : Nat) (a : Addr) (r : M Res) : En → M D := fun env => match env[i]? with
  | some (.x a') => if a' = a then M.bind (quiet r) fun z => M.ret z.d else M.bad
  | _ => M.bad
section
variable {P : Program} {w : World} {K : PySem.W.Frag} {mg : Str → Option Value} {base : Heap}
/-- such a def -/
def FnX (P : Program) (w : World) (K : PySem.W.Frag) (mg : Str → Option Value) (base : Heap) (k : Nat) (f : Addr) (fd : FuncData) (x : Str) (m : Bool) (ca : Ct) (r : Addr → Str → M Res) : Prop :=
  ∀ (A : Around) (outer : List PySem.Env) (s : Shared) (args : Args) (Q : VK) (p : Addr × Obj) (c : Str) (g : G) (S : Store), L2H.RoomH k A → L2H.Hot1 A p → L2H.PinOk outer g.H s p → Zc (.ref (ca c)) none p.2 → Env0 P w K mg base A outer s g.H → BindsTo s fd args [(x, .ref p.1)] → SOk ca g S →
    (r p.1 c S).sat (okR m ca g Q) (fun _ _ => False) → codeAny (model P w) A (.call (.ref f) args) (CR (CXf P w) outer P w g.H s Q (fun _ _ _ => False)) s
theorem fn_mkX {x nm qual : Str} {st : Stmt} {f : Addr} {fd : FuncData} {N : List Str} {k : Nat} {m : Bool} {ca : Ct} {dn : Addr → Str → En → M Fl} (F : Fun K nm qual st f fd) (Sc : FnScope N [x] (defScope st))
    (h : ∀ (cdv : Value) (A : Around) (outer : List PySem.Env) (s : Shared) (H : Hp) (p : Addr × Obj) (c : Str), L2H.RoomH k (A.deeper (envOfC qual (defScope st) s.heap.objs.size f cdv)) → p ∈ (L2H.cxH (CXf P w) P w K mg base N qual (defScope st) f cdv A outer s H (fun _ _ _ => False) p).pn → Zc (.ref (ca c)) none p.2 → (∃ vs, p.2.data = .fields vs) → L2H.Hot1 (L2H.cxH (CXf P w) P w K mg base N qual (defScope st) f cdv A outer s H (fun _ _ _ => False) p).A p →
      DSs m (L2H.cxH (CXf P w) P w K mg base N qual (defScope st) f cdv A outer s H (fun _ _ _ => False) p) W0 ca (defBody st) (dn p.1 c)) : FnX P w K mg base (k + 1) f fd x m ca (fnX N.length dn) := by
  obtain ⟨oc, od, kV, doc, pm, an, cdv, ct, osl, rfl, lk, hcd⟩ := F.ex
  intro A outer s args Q p c g S hr hot hpin hz e0 hb hS hq
  have kin : K.In s.heap := e0.mod.kin.keeps fun b u z => (e0.bs b u z).1
  have free : s.heap.NoLimit := e0.mod.nolimit.keeps fun b u z => (e0.bs b u z).1
  have kinds : ∀ y ∈ [x].zip [Value.ref p.1], (defScope st).names.lookup y.1 = some .local ∨ ((defScope st).names.lookup y.1 = some .cell ∧ ((cellsFrom (s.heap.objs.size + 1) (defScope st).names []).lookup y.1).isSome = true) := fun y hy => by
    obtain rfl : y = (x, Value.ref p.1) := by simpa using hy
    exact (Sc.par x List.mem_cons_self).elim .inl fun q => .inr ⟨q, PySem.W.cellsFrom_some _ _ _ (.inl q)⟩
  have hb : BindsTo s _ args ([x].zip [Value.ref p.1]) := hb
  refine codeAny_call_function hr.depth (kin _ _ lk) rfl Sc.co Sc.gen rfl (PySem.W.codeRec_of kin hcd) (hb _ _ _ _ (wpAny_newFunctionEnv_cells Sc.kind kinds fun env he s1 inn => ?_))
  subst he
  refine ⟨free.keeps inn.toInCall.keep, codeAny_func ?_⟩
  have rv : Vals [V.ref p.1] [Value.ref p.1] := .cons rfl .nil
  have I : Inv (L2H.cxH (CXf P w) P w K mg base N qual (defScope st) f cdv A outer s g.H (fun _ _ _ => False) p) [] (L2.start N [.ref p.1]) g.H s1 := L2H.inv_startH Sc hpin e0 rfl rv inn
  obtain ⟨vs0, c0, -⟩ := hot.2
  obtain ⟨t, pt, kt⟩ := h cdv A outer s g.H p c (hr.deeper _) (by simp [L2H.cxH]) hz ⟨vs0, c0⟩ hot
  have hE : EnvOk g.H g (L2.start N [.ref p.1]) (.x p.1 :: List.replicate (N.length - 1) .u) := by
    have hn : 0 < N.length := by
      have := congrArg List.length Sc.pre
      rw [List.length_take] at this
      simp at this
      omega
    refine ⟨by simp [L2.start], fun i v w a b => ?_, fun i j v w w' ne a b c d o o' => ?_⟩
    · cases i with
      | zero =>
        simp [L2.start] at a b
        subst a b
        rfl
      | succ i =>
        rw [List.getElem?_cons_succ, List.getElem?_replicate] at b
        split at b
        · cases b; trivial
        · cases b
    · cases i with
      | zero => simp at c; subst c; cases o
      | succ i =>
        rw [List.getElem?_cons_succ, List.getElem?_replicate] at c
        split at c
        · cases c; cases o
        · cases c
  have fin := kt g g S (L2.start N [.ref p.1]) _ (Ext.refl g) hS hE { nx := fun _ H' => Q .non H', rt := Q } (sat_mono (sat_quiet (E' := noX) (sat_bind hq)) (fun fl S1 q => by
    cases fl with
    | nx env => exact fun g' σ' e _ s1 _ => (show okR m ca g Q (.f .non) S1 from q) g' _ e s1 .non
    | rt d => exact fun g' v e _ s1 r => (show okR m ca g Q (.f d) S1 from q) g' v e s1 r
    | rtO xs => exact fun g' l vs e _ s1 h1 h2 h3 h4 h5 => (show okR m ca g Q (.o xs) S1 from q) g' _ e s1 ⟨l, vs, rfl, h1, h2, h3, h4, h5⟩
    | ex c env => exact q.elim
    | bk env => exact q.elim
    | ct env => exact q.elim) fun _ _ q => q)
  refine wpAny_mono (pt.run [] s1 _ g.H _ I fin) (fun fl s' hs => ?_) fun e s' hs => hs
  match fl, hs with
  | .ret u, ⟨v, σ', H', J, rv, q⟩ => exact ⟨v, H', J.os, J.bare, J.base, J.hok, rv, q⟩
  | .next, ⟨σ', H', J, q⟩ => exact ⟨.non, H', J.os, J.bare, J.base, J.hok, rfl, q⟩
  | .brk, ⟨_, _, _, q⟩ => exact q.elim
  | .cont, ⟨_, _, _, q⟩ => exact q.elim
end
section
variable {m m' : Bool} {X : Cx} {W : WX} {ca : Ct} {a : Addr} {oe : Obj} {c n x fx : Str} {p p1 pos : Pos} {k : Nat} {f : Addr} {fd : FuncData} {r : Addr → Str → M Res}
theorem de_callXH (i : Nat) (F : FnX X.prog X.w X.K X.mg X.base k f fd x m' ca r) (hm' : Fits m m') (hr : L2H.RoomH k X.A) (hot : L2H.Hot1 X.A (a, oe)) (hp : (a, oe) ∈ X.pn) (hz : Zc (.ref (ca c)) none oe) (hm : X.mg fx = some (.ref f)) (hk : PySem.W.keepIn X.K (.ref f) = true) (hb : Binds X.K fd [x] [])
    (hg : Gl X fx := by rfl) (hdb : (fx == ("__debug__" : Str)) = false := by decide) (hN : X.N[i]? = some n := by rfl) (hvis : Vis X.env.scope n := by first | exact Or.inl rfl | exact Or.inr (Or.inl rfl) | exact Or.inr (Or.inr rfl)) (hd : (n == ("__debug__" : Str)) = false := by decide) (hcd : (n == ("__classdict__" : Str)) = false := by decide)
    (he : starEach [.Name n p1] X.env = (false, eval (.Name n p1) X.env) :: starEach [] X.env := by rfl) (hpl : (backTo pos (starEach [] X.env)).any (·.1) = false := by rfl) :
    DE m X W ca (.Call (.Name fx p) [.Name n p1] [] pos) (eFnX i a (r a c)) := by
  refine ⟨fun σ H Q => σ[i]? = some (some (.ref a)) ∧ ∃ g S, g.H = H ∧ SOk ca g S ∧ (r a c S).sat (okR m' ca g Q) (fun _ _ => False), ⟨fun pins s σ H Q I h => ?_⟩, fun H0 g S σ env hS hE Q h => ?_⟩
  · obtain ⟨h1, g, S, rfl, hS, h2⟩ := h
    refine wpAny_Call_Name_kw (ld_glob I hg hm (PySem.W.callWith_K (h₀ := X.base) I.ok.mod.kin hk (thn ((pa_cons (pe_var hN hvis hd hcd) pa_nil he).run pos pins s σ g.H (fun vs H1 => vs = [.ref a] ∧ H1 = g.H) I ⟨_, h1, rfl, rfl⟩) fun us s1 hu => ?_) he hpl) hdb)
    obtain ⟨vs, H1, I1, ru, rfl, rfl⟩ := hu
    refine ⟨I1.kIn, ?_⟩
    match us, ru with
    | [u], .cons rx .nil =>
      obtain rfl : u = Value.ref a := rx
      obtain ⟨q1, q2, q3⟩ := I1.pin (a, oe) (List.mem_append_left _ hp)
      have hpin : L2H.PinOk X.stack g.H s1 (a, oe) := ⟨q1, q2, fun hmem => (List.mem_cons.mp (I1.stkSub a hmem)).elim q3.1 q3.2.1, q3.2.2⟩
      refine wpAny_call (codeAny_mono (F X.A X.stack s1 ⟨[.ref a], []⟩ Q (a, oe) c g S hr hot hpin hz I1.env0 (hb s1 [.ref a] I1.kIn rfl) hS h2) fun res s' hq => ?_)
      match res, hq with
      | .error e, ⟨_, _, _, _, _, _, _, _, _, _, _, _, z⟩ => exact z.elim
      | .ok (.ret u), hq => exact I1.after hq
  · unfold eFnX at h
    cases e : env[i]? with
    | none => rw [e] at h; exact h.elim
    | some w =>
      rw [e] at h
      cases w with
      | x a' =>
        dsimp only at h
        by_cases ha : a' = a
        · subst ha
          rw [if_pos rfl] at h
          obtain ⟨v', h1, h2⟩ := hE.get e
          have h2 : v' = some (.ref a') := h2
          subst h2
          refine ⟨h1, g, S, rfl, hS, ?_⟩
          have h3 := sat_quiet (E' := fun _ _ => False) (sat_bind h)
          cases er : r a' c S with
          | bad => rw [er] at h3; exact h3.elim
          | exc c S1 => rw [er] at h3; exact h3.elim
          | ok z S1 =>
            rw [er] at h3
            exact fun g' v e1 s1 rr => sok_ret (e1.fit hm') s1 rr h3
        · rw [if_neg ha] at h; exact h.elim
      | _ => exact h.elim
theorem de_callX (i : Nat) (F : FnX X.prog X.w X.K X.mg X.base k f fd x m' ca r) (hm' : Fits m m') (hr : L2H.RoomH k X.A) (hh : X.A.handled = some (.ref a)) (hp : (a, oe) ∈ X.pn) (hz : L2N.Zn (.ref (ca c)) none oe) (hf : ∃ vs, oe.data = .fields vs) (hm : X.mg fx = some (.ref f)) (hk : PySem.W.keepIn X.K (.ref f) = true) (hb : Binds X.K fd [x] [])
    (hg : Gl X fx := by rfl) (hdb : (fx == ("__debug__" : Str)) = false := by decide) (hN : X.N[i]? = some n := by rfl) (hvis : Vis X.env.scope n := by first | exact Or.inl rfl | exact Or.inr (Or.inl rfl) | exact Or.inr (Or.inr rfl)) (hd : (n == ("__debug__" : Str)) = false := by decide) (hcd : (n == ("__classdict__" : Str)) = false := by decide)
    (he : starEach [.Name n p1] X.env = (false, eval (.Name n p1) X.env) :: starEach [] X.env := by rfl) (hpl : (backTo pos (starEach [] X.env)).any (·.1) = false := by rfl) :
    DE m X W ca (.Call (.Name fx p) [.Name n p1] [] pos) (eFnX i a (r a c)) := by
  obtain ⟨vs0, hv⟩ := hf
  exact de_callXH i F hm' hr ⟨hh, vs0, hv, hz.2.2 vs0 hv⟩ hp hz.zc hm hk hb hg hdb hN hvis hd hcd he hpl
end
end Dn

namespace Dn
open PySem L2 PyProof.Rows
/-! ### a field's own list is walked, a new dict -/
def iFld (C f : Str) (fo : En → M D) : En → M (List D) := fun env => M.bind (fo env) fun x => fldO C f x fun _ _ xs => M.ret xs
def kNil : En → M (List (Key × D)) := fun _ => M.ret []
section
variable {m q : Bool} {X : Cx} {W : WX} {ca : Ct} {o : Expr} {fo : En → M D} {pos : Pos} {C f : Str}
theorem di_fld (c : Cls X.K (ca C)) (nf : NoAttr X.K (ca C) f) (ho : DE true X W ca o fo) (hb : attributeBase o f X.env (eval o X.env) = eval o X.env := by rfl) (hC : (C == ("" : Str)) = false := by decide) : DI q true X W ca (.Attribute o f pos) (iFld C f fo) := by
  obtain ⟨t, p, k⟩ := ho
  refine ⟨_, fun tg => pi_list (pe_fld p hb), fun H0 g S σ env hS hE R h => ?_⟩
  refine k H0 g S σ env hS hE _ (sat_mono (seqI (P := itP q true ca R) itP.mono h) (fun x S1 z g1 v e1 s1 r1 => ?_) fun _ _ q => q)
  obtain ⟨n, ob, xs, rfl, eS, ec, el, z⟩ := fldO_get (z g1 e1)
  obtain ⟨a, dx, fs, l, vs, rfl, h1, h2, h3, h4, h5, h6, h7⟩ := s1.fld eS r1 el ec hC
  exact ⟨a, ca C, dx, fs, _, rfl, by rw [← ec]; exact h2, c, nf, h4, l, rfl, ⟨vs, SqL.of h6⟩, (show itP q true ca R g1 xs S1 from z) g1 _ (Ext.refl _) s1 (itl_ok (fun g' S e hS => SqL.of ((e.mo.pure rfl).2 _ _ _ h5 h6)) h7)⟩
theorem ds_setLcP {elt tg iter : Expr} {ifs : List Expr} {scope : Scope} {own : List (Str × Nat)} {it : En → M (List D)} {b : D → En → Option En} {ks : List Nat} {ft : En → M Bool} {fe : En → M D} {y : Str} {py spos : Pos} (i : Nat) (hc : X.calm = true) (hN : X.N.Nodup)
    (hy : X.N[i]? = some y) (hyl : X.env.scope.names.lookup y = some .local) (hsw : swapsWith (.ListComp elt [⟨tg, iter, ifs, 0⟩] scope pos) (some (.Name y py)) spos.line X.env = pure true)
    (hi : DI false true X W ca iter it) (ok : BlkOk X.N X.env.scope scope own) (hg : Blk X scope fun Y => DG Y tg b ks) (ht : Blk X scope fun Y => DTs true Y W0 ca ifs ft) (he : Blk X scope fun Y => DE true Y W0 ca elt fe) (hk : ∀ k ∈ ks, k ∈ own.map (·.2) := by decide)
    (hs : ∀ x, foldedSetIterable iter X.env x = pure x := by intro _; rfl) : DS m X W ca (.Assign [.Name y py] (.ListComp elt [⟨tg, iter, ifs, 0⟩] scope pos) spos) (sSetO i (oLc it b ft fe (own.map (·.2)))) := by
  obtain ⟨wi, pi, ki⟩ := hi
  obtain ⟨t1, p1, k1⟩ := allG hg
  obtain ⟨t2, p2, k2⟩ := allT ht
  obtain ⟨t3, p3, k3⟩ := allE he
  exact ⟨_, ps_setLc hc hN hy hyl hsw (pi tg) ok p1 p2 p3 hs, setO_ok (fun H0 g S σ env hS hE Q h => lc_read ki k1 k2 k3 hk H0 g S σ env hS hE Q (sat_mono h (fun d S' q g' a vs e s n h1 h2 h3 r => q g' a vs e.down s n h1 h2 h3 r) fun c S' q g' e s => q g' e.down s))⟩
theorem de_index {a b : Expr} {fa fb : En → M D} {apos cpos : Pos} (ha : DB m X W ca a fa) (hb : DE m X W ca b fb) (hbase : attributeBase a "index" X.env (eval a X.env) = eval a X.env := by rfl)
    (hfew : ((backTo cpos (starEach [b] X.env)).all (fun x => !x.1) && (backToKw cpos (keywordEach [] X.env)).all (fun x => x.1.isSome) && decide (([b] : List Expr).length + ([] : List Keyword).length + (if ([] : List Keyword).isEmpty then 0 else 1) < 30)) = true := by rfl)
    (hline : (apos.endLine == cpos.line) = true := by rfl) (hs : starEach [b] X.env = (false, eval b X.env) :: starEach [] X.env := by rfl) : DE m X W ca (.Call (.Attribute a "index" apos) [b] [] cpos) (eIndex fa fb) := by
  obtain ⟨ta, pa, ka⟩ := ha
  obtain ⟨tb, pb, kb⟩ := hb
  refine ⟨_, pe_bm PySem.F.plainAttrs_list PySem.F.slot_list_index PySem.F.type_list_index mt_index pa (pa_cons pb pa_nil hs) hbase hfew hline hs, fun H0 g S σ env hS hE Q h => ?_⟩
  refine ka H0 g S σ env hS hE _ (sat_mono (seqE h) (fun x S1 z g1 u e1 s1 r1 => ?_) fun _ _ q => q)
  have z := z g1 e1
  cases x with
  | lst xs =>
    obtain ⟨l, vs, rfl, h1, h2⟩ := r1.lst s1
    refine ⟨.inl ⟨rfl, vs, SqL.of h1⟩, ?_⟩
    refine kb H0 g1 S1 σ env s1 (hE.ext e1) _ (sat_mono (seqE z) (fun y S2 z g2 v e2 s2 r2 => ?_) fun _ _ q => q)
    have z := z g2 e2
    by_cases c : flatD y = true ∧ xs.all flatD = true
    · rw [if_pos c] at z
      obtain ⟨w, e3, z⟩ := sat_lift z
      cases e4 : findF y xs with
      | none => rw [e4] at e3; cases e3
      | some j =>
        rw [e4] at e3; cases e3
        obtain ⟨l', vs', el, k1, k2⟩ := (r1.ext s2 e2).lst s2
        cases el
        obtain ⟨⟨d, i1, i2⟩, i3⟩ := findF_is e4
        obtain ⟨u, j1, j2⟩ := k2.get j i1
        have fl := List.all_eq_true.mp c.2
        exact ⟨l, vs', v, j, u, rfl, rfl, SqL.of k1, flat_v r2 c.1, flat_vA k2 c.2, j1, by rw [eqF_v j2 r2 (fl d (List.mem_of_getElem? i1))]; exact i2, fun m' u' hm hu => by
          obtain ⟨d', q1, q2⟩ := k2.getV m' hu
          rw [eqF_v q2 r2 (fl d' (List.mem_of_getElem? q1))]
          exact i3 m' d' hm q1, (show okE m ca g2 Q (.int (j : Nat)) S2 from z) g2 _ (Ext.refl _) s2 (.int _)⟩
    · rw [if_neg c] at z; exact z.elim
  | _ => exact z.elim
theorem dk_nil : DK m X W ca (.Dict [] [] pos) kNil := ⟨_, pe_dnewK, fun H0 g S σ env hS hE Q h a ha => by
  exact (show okK m ca g Q [] S from h) (g.nw a (.dK [])) a [] (ext_nw hS ha _) (sok_nw hS ha _) ha upd_same (hS.free ha) (hS.nop ha) .nil⟩
end
/-! ### the law's def -/
theorem rh_mark {j k : Nat} {A : Around} {hd : Option Value} (r : Room k A) (h : j ≤ k) : L2H.RoomH j (A.mark hd) :=
  ⟨by have := r.dp; show A.depth + 3 * j + 5 < _; omega, by have := r.un; show A.units + 16 * j + 200 < _; omega⟩
theorem rh_u65 {k : Nat} {A : Around} (r : L2H.RoomH k A) : A.units + 65 < cLine := by have := r.un; omega
theorem rh_units {k : Nat} {A : Around} (r : L2H.RoomH k A) : A.units + 64 < cLine := by have := r.un; omega
/-- what the row wants -/
def lawSp (K : PySem.W.Frag) : Sp := fun vs H Q E => ∃ (a : Addr) (ns : List Int), vs = [.ref a] ∧ ns.length ≤ 63 ∧ Only H ∧ SqL K H a (ns.map V.int) ∧ ∀ H', Q (.bl true) H'
theorem law_imp {K : PySem.W.Frag} {f : Fn} {ca : Ct} {m : Bool} (hK : ca.K = K) (hlaw : ∀ ns : List Int, ns.length ≤ 63 → ∃ S', f [.scr ns] [] = .ok (.f (.bl true)) S') : ∀ vs H Q E, lawSp K vs H Q E → spOf m ca 1 f vs H Q E := fun vs H Q E h => by
  obtain ⟨a, ns, rfl, hl, hO, hS, q⟩ := h
  obtain ⟨S', hl⟩ := hlaw ns hl
  refine ⟨rfl, ⟨fun _ => none, H, ⟨fun _ => none, fun b ms => b = a ∧ ms = ns⟩⟩, [], [.scr ns], rfl, ⟨fun _ _ h => (nomatch h), fun _ _ _ h => (nomatch h), fun _ _ _ => rfl, fun _ _ h => (nomatch h), fun n ob h _ => ?_, ?_, fun _ _ h => (nomatch h), fun _ _ _ h => (nomatch h), fun n ob h _ => ?_⟩, .cons (.scr ⟨rfl, rfl⟩) .nil, ?_⟩
  · simp at h
  · rintro b ms ⟨rfl, rfl⟩
    rcases hS with (h | ⟨o, h⟩) | h
    · rcases hO b with z | ⟨o, xs, z⟩
      · rw [h] at z; cases z
      · rw [h] at z; cases z
    · exact .inl ⟨o, h⟩
    · exact .inr fun H' => by rw [hK]; exact .inr h
  · simp at h
  · rw [hl]
    intro g' v _ _ r
    cases r
    exact q _
end Dn

namespace Dn
open PySem L2 PyProof.Rows
/-! ### tables -/
def putD (kvs : List (Key × D)) (k : Key) (v : D) : List (Key × D) :=
  if (kvs.any fun kv => decide (kv.1 = k)) = true then kvs.map (fun kv => if kv.1 = k then (kv.1, v) else kv) else kvs ++ [(k, v)]
def dropD (kvs : List (Key × D)) (k : Key) : List (Key × D) := kvs.filter fun kv => decide (kv.1 ≠ k)
section
variable {F : Hp} {p : Pi}
theorem RpK.any (k : Key) : ∀ {vs : List (Key × V)} {ds : List (Key × D)}, RpK F p vs ds → (vs.any fun kv => decide (kv.1 = k)) = (ds.any fun kv => decide (kv.1 = k))
  | _, _, .nil => rfl
  | _, _, .cons _ t => by simp only [List.any_cons, RpK.any k t]
theorem RpK.length : ∀ {vs : List (Key × V)} {ds : List (Key × D)}, RpK F p vs ds → vs.length = ds.length
  | _, _, .nil => rfl
  | _, _, .cons _ t => by simp only [List.length_cons, RpK.length t]
theorem RpK.appendOne {k : Key} {v : V} {d : D} (h : Rp F p v d) : ∀ {vs : List (Key × V)} {ds : List (Key × D)}, RpK F p vs ds → RpK F p (vs ++ [(k, v)]) (ds ++ [(k, d)])
  | _, _, .nil => .cons h .nil
  | _, _, .cons g t => .cons g (RpK.appendOne h t)
theorem RpK.upd {k : Key} {v : V} {d : D} (h : Rp F p v d) : ∀ {vs : List (Key × V)} {ds : List (Key × D)}, RpK F p vs ds → RpK F p (vs.map fun kv => if kv.1 = k then (kv.1, v) else kv) (ds.map fun kv => if kv.1 = k then (kv.1, d) else kv)
  | _, _, .nil => .nil
  | _, _, .cons (k := k') g t => by
    simp only [List.map_cons]
    by_cases e : k' = k
    · rw [if_pos e, if_pos e]; exact .cons h (RpK.upd h t)
    · rw [if_neg e, if_neg e]; exact .cons g (RpK.upd h t)
theorem RpK.put {k : Key} {v : V} {d : D} (h : Rp F p v d) {vs : List (Key × V)} {ds : List (Key × D)} (r : RpK F p vs ds) : RpK F p (putK vs k v) (putD ds k d) := by
  unfold putK putD
  rw [r.any k]
  split
  · exact r.upd h
  · exact r.appendOne h
theorem RpK.drop (k : Key) : ∀ {vs : List (Key × V)} {ds : List (Key × D)}, RpK F p vs ds → RpK F p (dropK vs k) (dropD ds k)
  | _, _, .nil => .nil
  | _, _, .cons (k := k') (vs := vs) (ds := ds) g t => by
    have ih : RpK F p (dropK vs k) (dropD ds k) := RpK.drop k t
    unfold dropK dropD at ih ⊢
    simp only [List.filter_cons]
    by_cases e : k' = k
    · have h1 : decide (k' ≠ k) = false := by simpa using e
      simp only [h1, Bool.false_eq_true, if_false]
      exact ih
    · have h1 : decide (k' ≠ k) = true := by simpa using e
      simp only [h1, if_true]
      exact .cons g ih
end
theorem length_putD (kvs : List (Key × D)) (k : Key) (v : D) : (putD kvs k v).length ≤ kvs.length + 1 := by
  unfold putD
  split <;> simp

/-! ### lists and dicts that more than one name may mean -/
def rL (xs : List D) : Ob := ⟨"", rawF (.o xs)⟩
def rK (kvs : List (Key × D)) : Ob := ⟨"", rawF (.k kvs)⟩
def Ob.raw (ob : Ob) : Option FV := if ob.cls = ("" : Str) then (match ob.fs with
  | [(f, w)] => if f = ("" : Str) then some w else none
  | _ => none) else none
theorem raw_L (xs : List D) : (rL xs).raw = some (.o xs) := by simp [Ob.raw, rL, rawF]
theorem raw_K (xs : List (Key × D)) : (rK xs).raw = some (.k xs) := by simp [Ob.raw, rK, rawF]
theorem Ob.raw_get {ob : Ob} {w : FV} (h : ob.raw = some w) : ob = ⟨"", rawF w⟩ := by
  obtain ⟨c, fs⟩ := ob
  unfold Ob.raw at h
  by_cases hc : c = ("" : Str)
  · rw [if_pos hc] at h
    match fs, h with
    | [(f, w')], h =>
      dsimp only at h
      by_cases hf : f = ("" : Str)
      · rw [if_pos hf] at h
        cases h
        rw [hc, hf]
        rfl
      · rw [if_neg hf] at h; cases h
  · rw [if_neg hc] at h; cases h
section
variable {ca : Ct} {g : G} {S : Store}
theorem Pi.add_old {p : Pi} {n : Nat} {a b : Addr} {l : Loc} (h : (p.add n a) l = some b) : p l = some b ∨ (l = .ob n ∧ b = a) := by
  cases l with
  | fl k f => exact .inl h
  | ob k =>
    have h : (if k = n then some a else p (.ob k)) = some b := h
    by_cases c : k = n
    · rw [if_pos c] at h; cases h; exact .inr ⟨by rw [c], rfl⟩
    · rw [if_neg c] at h; exact .inl h
theorem Pi.add_self (p : Pi) (n : Nat) (a : Addr) : (p.add n a) (.ob n) = some a := by
  show (if n = n then some a else _) = _
  rw [if_pos rfl]
theorem SOk.nob (hS : SOk ca g S) : g.p (.ob S.length) = none := by
  cases c : g.p (.ob S.length) with
  | none => rfl
  | some b => exact absurd (hS.lt _ _ c) (Nat.lt_irrefl _)
theorem SOk.addn (hS : SOk ca g S) {a b : Addr} {l : Loc} (h : g.p l = some b) : (g.p.add S.length a) l = some b := by
  cases l with
  | fl k f => exact h
  | ob k =>
    show (if k = S.length then some a else g.p (.ob k)) = some b
    rw [if_neg (fun c => by rw [c, hS.nob] at h; cases h)]; exact h
theorem raw_new (hS : SOk ca g S) {q : Addr} {o : HO} {w : FV} (hq : g.H q = some o) (hF : g.F q = none) (hp : ∀ l, g.p l ≠ some q) (hr : RawAt g q (rawF w)) : SOk ca ⟨g.F, g.H, g.p.add S.length q⟩ (S ++ [⟨"", rawF w⟩]) := by
  have le : PiLe g.p (g.p.add S.length q) := ⟨fun n b h => hS.addn h, fun _ _ h => h⟩
  have at0 : ∀ n ob, ¬ n < S.length → (S ++ [(⟨"", rawF w⟩ : Ob)])[n]? = some ob → n = S.length ∧ ob = ⟨"", rawF w⟩ := fun n ob c h => by
    rw [List.getElem?_append_right (by omega)] at h
    have e0 : n - S.length = 0 := by
      cases d : n - S.length with
      | zero => rfl
      | succ j => rw [d] at h; simp at h
    rw [e0] at h
    cases h
    exact ⟨by omega, rfl⟩
  refine ⟨hS.same, fun l l' b h1 h2 => ?_, fun l b h => ?_, fun l b h => ?_, fun n ob h hc => ?_, fun b ns h => hS.sc b ns h, fun n b h => ?_, fun n f b h => ?_, fun n ob h hc => ?_⟩
  · rcases Pi.add_old h1 with q1 | ⟨q1, r1⟩ <;> rcases Pi.add_old h2 with q2 | ⟨q2, r2⟩
    · exact hS.inj _ _ _ q1 q2
    · exact absurd (by rw [← r2]; exact q1) (hp l)
    · exact absurd (by rw [← r1]; exact q2) (hp l')
    · rw [q1, q2]
  · rcases Pi.add_old h with q | ⟨q, r⟩
    · exact hS.out _ _ q
    · rw [r]; exact hF
  · rcases Pi.add_old h with q | ⟨q, r⟩
    · exact hS.live _ _ q
    · rw [r]; exact ⟨_, hq⟩
  · by_cases c : n < S.length
    · rw [List.getElem?_append_left c] at h
      obtain ⟨b, dy, gs, h1, h2, h3⟩ := hS.obs n ob h hc
      exact ⟨b, dy, gs, hS.addn h1, h2, FsOk.kp (g := g) (g' := ⟨g.F, g.H, g.p.add S.length q⟩) (Same.refl _) le (fun l a h => hS.addn h) (fun l b u _ h => h) h3⟩
    · obtain ⟨-, rfl⟩ := at0 n ob c h
      exact absurd rfl hc
  · rw [List.length_append]
    rcases Pi.add_old h with q | ⟨q, r⟩
    · exact Nat.lt_of_lt_of_le (hS.lt _ _ q) (Nat.le_add_right _ _)
    · cases q; simp
  · rw [List.length_append]
    rcases Pi.add_old h with q | ⟨q, r⟩
    · exact Nat.lt_of_lt_of_le (hS.lf _ _ _ q) (Nat.le_add_right _ _)
    · cases q
  · by_cases c : n < S.length
    · rw [List.getElem?_append_left c] at h
      obtain ⟨b, h1, h2⟩ := hS.raw n ob h hc
      exact ⟨b, hS.addn h1, RawAt.mv (g := g) (g' := ⟨g.F, g.H, g.p.add S.length q⟩) (Same.refl _) le (fun _ x => x) h2⟩
    · obtain ⟨rfl, rfl⟩ := at0 n ob c h
      exact ⟨q, Pi.add_self _ _ _, RawAt.mv (g := g) (g' := ⟨g.F, g.H, g.p.add S.length q⟩) (Same.refl _) le (fun _ x => x) hr⟩
theorem raw_ext {g0 : G} (e : Ext false g0 g) (hS : SOk ca g S) {q : Addr} (n : g0.H q = none) : Ext false g0 ⟨g.F, g.H, g.p.add S.length q⟩ :=
  ⟨e.same, fun b o h1 h2 h3 => (by
    obtain ⟨k1, k2, k3⟩ := e.stay b o h1 h2 h3
    refine ⟨k1, k2, fun l z => ?_⟩
    rcases Pi.add_old z with q1 | ⟨_, r⟩
    · exact k3 _ q1
    · rw [r, n] at h1; cases h1), e.obs.trans ⟨fun n b h => hS.addn h, fun _ _ h => h⟩, e.dom, (fun h => nomatch h), e.frz⟩
theorem raw_putW (hS : SOk ca g S) {n : Nat} {ob : Ob} (e : S[n]? = some ob) (hc : ob.cls = rawC) {a : Addr} {u : HO} {w : FV} (ea : g.p (.ob n) = some a) (ho : ∀ x y, g.H a ≠ some (.frz x (.lst y))) (hr : RawAt ⟨g.F, upd g.H a u, g.p⟩ a (rawF w)) : SOk ca ⟨g.F, upd g.H a u, g.p⟩ (S.set n ⟨"", rawF w⟩) := by
  have hn : n < S.length := (List.getElem?_eq_some_iff.mp e).1
  have ne : ∀ l b, l ≠ .ob n → g.p l = some b → b ≠ a := fun l b h1 h2 c => by subst c; exact h1 (hS.inj _ _ _ h2 ea)
  have keep : ∀ l b o, l ≠ .ob n → g.p l = some b → g.H b = some o → upd g.H a u b = some o := fun l b o h1 h2 h3 => by rw [upd_ne (ne l b h1 h2)]; exact h3
  have fv : ∀ k f' v' w', FvOk g k f' v' w' → FvOk ⟨g.F, upd g.H a u, g.p⟩ k f' v' w' := fun k f' v' w' h => by
    cases w' with
    | f d => exact h
    | o xs =>
      obtain ⟨l, vs, h1, h2, h3, h4⟩ := h
      exact ⟨l, vs, h1, h2, keep (.fl k f') l _ (fun q => nomatch q) h2 h3, h4⟩
    | k xs =>
      obtain ⟨l, vs, h1, h2, h3, h4⟩ := h
      exact ⟨l, vs, h1, h2, keep (.fl k f') l _ (fun q => nomatch q) h2 h3, h4⟩
  refine ⟨fun b x h => ?_, hS.inj, hS.out, fun l b h => ?_, fun k ob' h hk => ?_, fun b ns h => ?_, fun k b h => ?_, fun k f b h => ?_, fun k ob' h hk => ?_⟩
  · have : b ≠ a := fun c => by
      subst c
      have q := hS.out _ _ ea
      rw [show g.F b = some x from h] at q; cases q
    show upd g.H a u b = _
    rw [upd_ne this]; exact hS.same _ _ h
  · by_cases c : b = a
    · subst c; exact ⟨u, upd_same⟩
    · obtain ⟨o, h1⟩ := hS.live l b h
      exact ⟨o, by show upd g.H a u b = _; rw [upd_ne c]; exact h1⟩
  · by_cases c : k = n
    · subst c
      rw [List.getElem?_set_self hn] at h
      cases h
      exact absurd rfl hk
    · rw [List.getElem?_set_ne (Ne.symm c)] at h
      obtain ⟨b, dy, gs, h1, h2, h3⟩ := hS.obs k ob' h hk
      refine ⟨b, dy, gs, h1, keep (.ob k) b _ (fun q => c (by cases q; rfl)) h1 h2, ?_⟩
      clear h1 h2 h hk
      generalize ob'.fs = ws at h3
      induction h3 with
      | nil => exact .nil
      | cons h t z ih => exact .cons (fv k _ _ _ h) ih z
  · rcases hS.sc b ns h with ⟨o', h'⟩ | h'
    · refine .inl ⟨o', ?_⟩
      have : b ≠ a := fun c => by subst c; exact ho _ _ h'
      show upd g.H a u b = _
      rw [upd_ne this]; exact h'
    · exact .inr h'
  · rw [List.length_set]; exact hS.lt k b h
  · rw [List.length_set]; exact hS.lf k f b h
  · by_cases c : k = n
    · subst c
      rw [List.getElem?_set_self hn] at h
      cases h
      exact ⟨a, ea, hr⟩
    · rw [List.getElem?_set_ne (Ne.symm c)] at h
      obtain ⟨b, h1, h2⟩ := hS.raw k ob' h hk
      exact ⟨b, h1, RawAt.mv (g := g) (g' := ⟨g.F, upd g.H a u, g.p⟩) (Same.refl _) (PiLe.refl _) (fun o x => keep (.ob k) b o (fun q => c (by cases q; rfl)) h1 x) h2⟩
theorem raw_put (hS : SOk ca g S) {n : Nat} {ob : Ob} (e : S[n]? = some ob) (hc : ob.cls = rawC) {a : Addr} {u : HO} {w : FV} (ea : g.p (.ob n) = some a) (ho : ∀ x y, g.H a ≠ some (.frz x y)) (hr : RawAt ⟨g.F, upd g.H a u, g.p⟩ a (rawF w)) : SOk ca ⟨g.F, upd g.H a u, g.p⟩ (S.set n ⟨"", rawF w⟩) := raw_putW hS e hc ea (fun x y => ho x _) hr
theorem raw_exP {g0 : G} (e : Ext false g0 g) {n : Nat} {a : Addr} {u : HO} (ea : g.p (.ob n) = some a) (ha : ∃ o, g.H a = some o) (hz : ∀ x y, g.H a ≠ some (.frz x y)) : Ext false g0 ⟨g.F, upd g.H a u, g.p⟩ :=
  ⟨e.same, fun b o h1 h2 h3 => by
    obtain ⟨k1, k2, k3⟩ := e.stay b o h1 h2 h3
    exact ⟨by show upd g.H a u b = _; rw [upd_ne (fun c => by subst c; exact k3 _ ea)]; exact k1, k2, k3⟩, e.obs, fun b h => by
    have h : upd g.H a u b = none := h
    by_cases c : b = a
    · subst c; rw [upd_same] at h; cases h
    · rw [upd_ne c] at h; exact e.dom b h, (fun h => nomatch h), fun b x y h => by
    have h1 := e.frz b x y h
    show upd g.H a u b = _
    rw [upd_ne (fun c => by subst c; exact hz _ _ h1)]; exact h1⟩
theorem rawF_inj {a b : FV} (h : rawF a = rawF b) : a = b := by
  unfold rawF at h
  injection h with h _
  injection h with _ h
theorem SOk.rawL (hS : SOk ca g S) {n : Nat} {ob : Ob} {xs : List D} {v : V} (e : S[n]? = some ob) (hr : ob.raw = some (.o xs)) (r : Rp g.F g.p v (.obj n)) : ∃ a vs, v = .ref a ∧ g.p (.ob n) = some a ∧ g.H a = some (.lst vs) ∧ RpA g.F g.p vs xs := by
  have he := Ob.raw_get hr
  subst he
  obtain ⟨a, h1, h2⟩ := hS.raw n _ e rfl
  cases r with
  | obj hp =>
    rw [h1] at hp
    cases hp
    rcases h2 with ⟨vs, ys, h3, h4, h5⟩ | ⟨vs, ys, h3, _⟩ | ⟨vs, ys, o, h3, _⟩
    · cases rawF_inj h3; exact ⟨_, vs, rfl, h1, h4, h5⟩
    · cases rawF_inj h3
    · cases rawF_inj h3
theorem SOk.rawK (hS : SOk ca g S) {n : Nat} {ob : Ob} {xs : List (Key × D)} {v : V} (e : S[n]? = some ob) (hr : ob.raw = some (.k xs)) (r : Rp g.F g.p v (.obj n)) : ∃ a vs, v = .ref a ∧ g.p (.ob n) = some a ∧ g.H a = some (.dK vs) ∧ RpK g.F g.p vs xs := by
  have he := Ob.raw_get hr
  subst he
  obtain ⟨a, h1, h2⟩ := hS.raw n _ e rfl
  cases r with
  | obj hp =>
    rw [h1] at hp
    cases hp
    rcases h2 with ⟨vs, ys, h3, _⟩ | ⟨vs, ys, h3, h4, h5⟩ | ⟨vs, ys, o, h3, _⟩
    · cases rawF_inj h3
    · cases rawF_inj h3; exact ⟨_, vs, rfl, h1, h4, h5⟩
    · cases rawF_inj h3
end
/-- a new list, a new dict, to be meant by more than one name -/
def eNewL (f : En → M (List D)) : En → M D := fun env => M.bind (f env) fun xs => fun S => .ok (.obj S.length) (S ++ [rL xs])
def eNewK (f : En → M (List (Key × D))) : En → M D := fun env => M.bind (f env) fun xs => fun S => .ok (.obj S.length) (S ++ [rK xs])
/-- what is read there for now -/
def rawV (d : D) : M D := fun S => match d with
  | .obj n => match S[n]? with
    | some ob => match ob.raw with
      | some (.o xs) => .ok (.lst xs) S
      | some (.k xs) => .ok (.dct xs) S
      | _ => .ok d S
    | none => .bad
  | d => .ok d S
def eRd (fo : En → M D) : En → M D := fun env => M.bind (fo env) rawV
def onL {α : Type} (d : D) (k : Nat → List D → M α) : M α := fun S => match d with
  | .obj n => match S[n]? with
    | some ob => match ob.raw with
      | some (.o xs) => k n xs S
      | _ => .bad
    | none => .bad
  | _ => .bad
def onK {α : Type} (d : D) (k : Nat → List (Key × D) → M α) : M α := fun S => match d with
  | .obj n => match S[n]? with
    | some ob => match ob.raw with
      | some (.k xs) => k n xs S
      | _ => .bad
    | none => .bad
  | _ => .bad
section
variable {n : Nat} {S : Store} {xs : List D} {kvs : List (Key × D)} {α : Type}
theorem rawV_L (h : S[n]? = some (rL xs)) : rawV (.obj n) S = .ok (.lst xs) S := by unfold rawV; simp only [h, raw_L]
theorem rawV_K (h : S[n]? = some (rK kvs)) : rawV (.obj n) S = .ok (.dct kvs) S := by unfold rawV; simp only [h, raw_K]
theorem rawV_ob {c : Str} {fs : List (Str × FV)} (h : S[n]? = some ⟨c, fs⟩) (hc : (c == ("" : Str)) = false) : rawV (.obj n) S = .ok (.obj n) S := by
  have : Ob.raw ⟨c, fs⟩ = none := by unfold Ob.raw; rw [if_neg (beq_eq_false_iff_ne.mp hc)]
  unfold rawV; simp only [h, this]
theorem rawV_non : rawV .non S = .ok .non S := rfl
theorem rawV_bl (b : Bool) : rawV (.bl b) S = .ok (.bl b) S := rfl
theorem rawV_int (b : Int) : rawV (.int b) S = .ok (.int b) S := rfl
theorem rawV_str (b : Str) : rawV (.str b) S = .ok (.str b) S := rfl
theorem rawV_lst (b : List D) : rawV (.lst b) S = .ok (.lst b) S := rfl
theorem rawV_tup (b : List D) : rawV (.tup b) S = .ok (.tup b) S := rfl
theorem rawV_dct (b : List (Key × D)) : rawV (.dct b) S = .ok (.dct b) S := rfl
theorem rawV_scr (b : List Int) : rawV (.scr b) S = .ok (.scr b) S := rfl
theorem onL_S (h : S[n]? = some (rL xs)) (k : Nat → List D → M α) : onL (.obj n) k S = k n xs S := by unfold onL; simp only [h, raw_L]
theorem onK_S (h : S[n]? = some (rK kvs)) (k : Nat → List (Key × D) → M α) : onK (.obj n) k S = k n kvs S := by unfold onK; simp only [h, raw_K]
theorem onL_get {d : D} {k : Nat → List D → M α} {P : α → Store → Prop} {E : Str → Store → Prop} (h : (onL d k S).sat P E) : ∃ n ob xs, d = .obj n ∧ S[n]? = some ob ∧ ob.raw = some (.o xs) ∧ (k n xs S).sat P E := by
  unfold onL at h
  cases d with
  | obj n =>
    dsimp only at h
    cases e : S[n]? with
    | none => rw [e] at h; exact h.elim
    | some ob =>
      rw [e] at h
      dsimp only at h
      cases e2 : ob.raw with
      | none => rw [e2] at h; exact h.elim
      | some w =>
        rw [e2] at h
        cases w with
        | o xs => exact ⟨n, ob, xs, rfl, e, e2, h⟩
        | _ => exact h.elim
  | _ => exact h.elim
theorem onK_get {d : D} {k : Nat → List (Key × D) → M α} {P : α → Store → Prop} {E : Str → Store → Prop} (h : (onK d k S).sat P E) : ∃ n ob xs, d = .obj n ∧ S[n]? = some ob ∧ ob.raw = some (.k xs) ∧ (k n xs S).sat P E := by
  unfold onK at h
  cases d with
  | obj n =>
    dsimp only at h
    cases e : S[n]? with
    | none => rw [e] at h; exact h.elim
    | some ob =>
      rw [e] at h
      dsimp only at h
      cases e2 : ob.raw with
      | none => rw [e2] at h; exact h.elim
      | some w =>
        rw [e2] at h
        cases w with
        | k xs => exact ⟨n, ob, xs, rfl, e, e2, h⟩
        | _ => exact h.elim
  | _ => exact h.elim
end
section
variable {m : Bool} {X : Cx} {W : WX} {ca : Ct} {o e b : Expr} {fo fa fb : En → M D} {pos pos' : Pos}
theorem de_newL {f : En → M (List D)} (h : DO false X W ca e f) : DE false X W ca e (eNewL f) := by
  obtain ⟨t, p, k⟩ := h
  refine ⟨t, p, fun H0 g S σ env hS hE Q h => k H0 g S σ env hS hE Q (sat_mono (sat_bind h) (fun xs S' z g' a vs e1 s1 n h1 h2 h3 r => ?_) fun _ _ q => q)⟩
  have z : okE false ca g Q (.obj S'.length) (S' ++ [rL xs]) := z
  exact z ⟨g'.F, g'.H, g'.p.add S'.length a⟩ (.ref a) (raw_ext e1 s1 n) (raw_new s1 h1 h2 h3 (.inl ⟨vs, xs, rfl, h1, r⟩)) (.obj (Pi.add_self _ _ _))
theorem de_newK {f : En → M (List (Key × D))} (h : DK false X W ca e f) : DE false X W ca e (eNewK f) := by
  obtain ⟨t, p, k⟩ := h
  refine ⟨t, p, fun H0 g S σ env hS hE Q h => k H0 g S σ env hS hE Q (sat_mono (sat_bind h) (fun xs S' z g' a vs e1 s1 n h1 h2 h3 r => ?_) fun _ _ q => q)⟩
  have z : okE false ca g Q (.obj S'.length) (S' ++ [rK xs]) := z
  exact z ⟨g'.F, g'.H, g'.p.add S'.length a⟩ (.ref a) (raw_ext e1 s1 n) (raw_new s1 h1 h2 h3 (.inr (.inl ⟨vs, xs, rfl, h1, r⟩))) (.obj (Pi.add_self _ _ _))
theorem db_rd (h : DE true X W ca e fa) : DB true X W ca e (eRd fa) := by
  obtain ⟨t, p, k⟩ := h
  refine ⟨t, p, fun H0 g S σ env hS hE Q h => k H0 g S σ env hS hE Q (sat_mono (seqB h) (fun d S1 z g1 v e1 s1 r1 => ?_) fun _ _ q => q)⟩
  have z := z g1 e1
  have self : okB true ca g1 Q d S1 → Q v g1.H := fun z => z g1 v (Ext.refl _) s1 (.inl r1)
  unfold rawV at z
  cases d with
  | obj n =>
    dsimp only at z
    cases e2 : S1[n]? with
    | none => rw [e2] at z; exact z.elim
    | some ob =>
      rw [e2] at z
      dsimp only at z
      cases e3 : ob.raw with
      | none => rw [e3] at z; exact self z
      | some w =>
        rw [e3] at z
        cases w with
        | f _ => exact self z
        | o xs =>
          obtain ⟨a, vs, rfl, h1, h2, h3⟩ := s1.rawL e2 e3 r1
          exact (show okB true ca g1 Q (.lst xs) S1 from z) g1 _ (Ext.refl _) s1 (.inr (.inl ⟨a, vs, xs, rfl, rfl, h2, ⟨s1.out _ _ h1, .inr ⟨rfl, _, h1⟩⟩, h3⟩))
        | k xs =>
          obtain ⟨a, vs, rfl, h1, h2, h3⟩ := s1.rawK e2 e3 r1
          exact (show okB true ca g1 Q (.dct xs) S1 from z) g1 _ (Ext.refl _) s1 (.inr (.inr ⟨a, vs, xs, rfl, rfl, h2, ⟨s1.out _ _ h1, .inr ⟨rfl, _, h1⟩⟩, h3⟩))
  | _ => exact self z
end
end Dn

namespace Dn
open PySem L2 PyProof.Rows
/-! ### d.get(k), d.get(k, x) -/
theorem d_get1None {X : Cx} {pins : List (Addr × Obj)} {σ : L2.St} {H : Hp} {s : Shared} {a : Addr} {kvs : List (Key × V)} {A : Around} {E : Value → Shared → Prop} {Q : Value → Shared → Prop} (I : Inv X pins σ H s) (e : Rd H a (.dK kvs)) (h : ∀ s', Inv X pins σ H s' → Q .none s') :
    wpAny (model X.prog X.w) A (call (.builtin "dict.get") [.ref a, .none]) Q E s := by
  obtain ⟨_, hd, vs, _, dd⟩ := dk_rd I.hok e
  obtain ⟨f, hm, hf⟩ := none_map dd
  refine call_meetsIn PySem.F.slot_dict_get dd.typeIs PySem.F.entry_dict_get (PySem.F.args_dict_get_2 _ _) (meets_dict_get (noneKind X.prog X.w) a (show (noneKind X.prog X.w).is none .none = true from rfl) hd) ⟨_, hm, ?_⟩
  rw [hf]
  exact h _ (I.tok _)
def tDGetN (td ty : TE) : TE := fun σ H Q => td σ H fun x H1 => ∃ a, x = .ref a ∧ IsD H1 a ∧ ty σ H1 fun y H2 => (∃ o, DGet H2 a y o ∧ Q (o.getD .non) H2) ∨ (y = .non ∧ (∃ kvs, Rd H2 a (.dK kvs)) ∧ Q .non H2)
theorem pe_dgetN {X : Cx} {o e : Expr} {apos cpos : Pos} {td ty : TE} (hu : X.A.units + 1 < cLine) (ho : PE X o td) (he : PE X e ty) (m : M1 X o "get" apos e cpos) : PE X (.Call (.Attribute o "get" apos) [e] [] cpos) (tDGetN td ty) := by
  refine ⟨fun pins s σ H Q I h => ?_⟩
  refine wpAny_Call_method m.base m.few m.line PySem.F.plainAttrs_dict PySem.F.slot_dict_get PySem.F.type_dict_get (thn (ho.run pins s σ H _ I h) fun u s1 ⟨x, H1, I1, rx, a, ex, d, q1⟩ => ?_)
  subst ex
  obtain rfl : u = Value.ref a := rx
  obtain ⟨t1, t2, _⟩ := isD_at I1 d
  refine ⟨t1, t2, ?_⟩
  rw [m.trees]
  refine Calls.callWith_builtin rfl (Calls.evalArgs_plain (Calls.spliced_cons (thn (he.run pins s1 σ H1 _ I1 q1) fun iv s2 ⟨y, H2, I2, ry, q2⟩ => Calls.spliced_nil ?_)))
  rcases q2 with ⟨ov, g, q2⟩ | ⟨rfl, ⟨kvs, g⟩, q2⟩
  · exact d_get1 hu I2 g ry fun w' s3 I3 rw' => ⟨_, H2, I3, rw', q2⟩
  · obtain rfl : iv = Value.none := ry
    exact d_get1None I2 g fun s3 I3 => ⟨.non, H2, I3, rfl, q2⟩
def getN (kvs : List (Key × D)) (y : D) : Option D := match keyD y with
  | some k => some ((getK kvs k).getD .non)
  | none => if isN y = true then some .non else none
def eGet1 (fa fb : En → M D) : En → M D := fun env => M.bind (fa env) fun x => match x with
  | .dct kvs => M.bind (fb env) fun y => M.lift (getN kvs y)
  | _ => M.bad
def eGet2 (fa fb fc : En → M D) : En → M D := fun env => M.bind (fa env) fun x => match x with
  | .dct kvs => M.bind (fb env) fun y => M.bind (fc env) fun z => match keyD y with
    | some k => M.ret ((getK kvs k).getD z)
    | none => M.bad
  | _ => M.bad
/-- d[k] = v -/
def sRPut (fo fk fa : En → M D) : En → M Fl := fun env => liftS (fa env) env fun v => liftS (fo env) env fun x => liftS (fk env) env fun y => onK x fun n kvs => match keyD y with
  | some k => if kvs.length < lim then setB n (rK (putD kvs k v)) (.nx env) else M.bad
  | none => M.bad
/-- d.pop(k) -/
def eRPop (fo fk : En → M D) : En → M D := fun env => M.bind (fo env) fun x => onK x fun _ _ => M.bind (fk env) fun y => onK x fun n kvs => match keyD y with
  | some k => match getK kvs k with
    | some d => setB n (rK (dropD kvs k)) d
    | none => M.bad
  | none => M.bad
/-- l.append(e) -/
def sRApp (fo fa : En → M D) : En → M Fl := fun env => liftS (fo env) env fun x => onL x fun _ _ => liftS (fa env) env fun d => onL x fun n xs => if xs.length < lim then setB n (rL (xs ++ [d])) (.nx env) else M.bad
/-- l.pop(i) -/
def eRPopL (fo fi : En → M D) : En → M D := fun env => M.bind (fo env) fun x => onL x fun _ _ => M.bind (fi env) fun i => onL x fun n xs => match i with
  | .int k => match ixN xs.length k with
    | some j => match xs[j]? with
      | some d => if xs.length ≤ lim then setB n (rL (xs.eraseIdx j)) d else M.bad
      | none => M.bad
    | none => M.bad
  | _ => M.bad
/-- l[i] = e -/
def sRSetI (fo fi fa : En → M D) : En → M Fl := fun env => liftS (fa env) env fun d => liftS (fo env) env fun x => liftS (fi env) env fun i => onL x fun n xs => match i with
  | .int k => match ixN xs.length k with
    | some j => setB n (rL (xs.set j d)) (.nx env)
    | none => M.bad
  | _ => M.bad
section
variable {m : Bool} {X : Cx} {W : WX} {ca : Ct} {o e b c : Expr} {fo fa fb fc : En → M D} {pos pos' apos cpos : Pos}
theorem de_get1 (hu : X.A.units + 64 < cLine) (ha : DB m X W ca o fa) (hb : DB m X W ca b fb) (m1 : M1 X o "get" apos b cpos := by exact ⟨rfl, rfl, rfl, rfl⟩) : DE m X W ca (.Call (.Attribute o "get" apos) [b] [] cpos) (eGet1 fa fb) := by
  obtain ⟨ta, pa, ka⟩ := ha
  obtain ⟨tb, pb, kb⟩ := hb
  refine ⟨_, pe_dgetN (by omega) pa pb m1, fun H0 g S σ env hS hE Q h => ?_⟩
  refine ka H0 g S σ env hS hE _ (sat_mono (seqE h) (fun x S1 z g1 v e1 s1 r1 => ?_) fun _ _ q => q)
  have z := z g1 e1
  cases x with
  | dct kvs =>
    obtain ⟨a, vs, rfl, h1, t⟩ := r1.dct s1
    refine ⟨a, rfl, .inl ⟨vs, .inl h1⟩, ?_⟩
    refine kb H0 g1 S1 σ env s1 (hE.ext e1) _ (sat_mono (seqE z) (fun y S2 z g2 u e2 s2 r2 => ?_) fun _ _ q => q)
    obtain ⟨w, hw, z⟩ := sat_lift (z g2 e2)
    obtain ⟨a', vs', ea, h2, t2⟩ := (r1.ext s2 e2).dct s2
    cases ea
    unfold getN at hw
    cases e3 : keyD y with
    | some k =>
      rw [e3] at hw
      cases hw
      left
      rcases getK_v t2 k with ⟨q1, q2⟩ | ⟨d, v, q1, q2, q3⟩
      · rw [q1] at z
        exact ⟨none, by rw [keyD_v (r2.h s2) e3, ← q2]; exact DGet.k h2, (show okE m ca g2 Q .non S2 from z) g2 _ (Ext.refl _) s2 .non⟩
      · rw [q1] at z
        exact ⟨some v, by rw [keyD_v (r2.h s2) e3, ← q2]; exact DGet.k h2, (show okE m ca g2 Q d S2 from z) g2 _ (Ext.refl _) s2 q3⟩
    | none =>
      rw [e3] at hw
      dsimp only at hw
      split at hw
      · rename_i hn
        cases hw
        exact .inr ⟨isN_is (r2.h s2) hn, ⟨vs', .inl h2⟩, (show okE m ca g2 Q .non S2 from z) g2 _ (Ext.refl _) s2 .non⟩
      · cases hw
  | _ => exact z.elim
theorem de_get2 (hu : X.A.units + 64 < cLine) (ha : DB m X W ca o fa) (hb : DB m X W ca b fb) (hc : DE m X W ca c fc) (m2 : M2 X o "get" apos b c cpos := by exact ⟨rfl, rfl, rfl, rfl⟩) : DE m X W ca (.Call (.Attribute o "get" apos) [b, c] [] cpos) (eGet2 fa fb fc) := by
  obtain ⟨ta, pa, ka⟩ := ha
  obtain ⟨tb, pb, kb⟩ := hb
  obtain ⟨tc, pc, kc⟩ := hc
  refine ⟨_, pe_dget2 (by omega) pa pb pc m2, fun H0 g S σ env hS hE Q h => ?_⟩
  refine ka H0 g S σ env hS hE _ (sat_mono (seqE h) (fun x S1 z g1 v e1 s1 r1 => ?_) fun _ _ q => q)
  have z := z g1 e1
  cases x with
  | dct kvs =>
    obtain ⟨a, vs, rfl, h1, t⟩ := r1.dct s1
    refine ⟨a, rfl, .inl ⟨vs, .inl h1⟩, ?_⟩
    refine kb H0 g1 S1 σ env s1 (hE.ext e1) _ (sat_mono (seqE z) (fun y S2 z g2 u e2 s2 r2 => ?_) fun _ _ q => q)
    refine kc H0 g2 S2 σ env s2 ((hE.ext e1).ext e2) _ (sat_mono (seqE (z g2 e2)) (fun w S3 z g3 u' e3 s3 r3 => ?_) fun _ _ q => q)
    have z := z g3 e3
    obtain ⟨a', vs', ea, h2, t2⟩ := ((r1.ext s2 e2).ext s3 e3).dct s3
    cases ea
    cases e4 : keyD y with
    | some k =>
      rw [e4] at z
      dsimp only at z
      rcases getK_v t2 k with ⟨q1, q2⟩ | ⟨d, v, q1, q2, q3⟩
      · rw [q1] at z
        exact ⟨none, by rw [keyD_v ((r2.ext s3 e3).h s3) e4, ← q2]; exact DGet.k h2, (show okE m ca g3 Q w S3 from z) g3 _ (Ext.refl _) s3 r3⟩
      · rw [q1] at z
        exact ⟨some v, by rw [keyD_v ((r2.ext s3 e3).h s3) e4, ← q2]; exact DGet.k h2, (show okE m ca g3 Q d S3 from z) g3 _ (Ext.refl _) s3 q3⟩
    | none => rw [e4] at z; exact z.elim
  | _ => exact z.elim
theorem rawAt_lst {g : G} {a : Addr} {vs : List V} {xs : List D} (h : RpA g.F g.p vs xs) : RawAt ⟨g.F, upd g.H a (.lst vs), g.p⟩ a (rawF (.o xs)) := .inl ⟨vs, xs, rfl, upd_same, h⟩
theorem rawAt_dct {g : G} {a : Addr} {vs : List (Key × V)} {xs : List (Key × D)} (h : RpK g.F g.p vs xs) : RawAt ⟨g.F, upd g.H a (.dK vs), g.p⟩ a (rawF (.k xs)) := .inr (.inl ⟨vs, xs, rfl, upd_same, h⟩)
/-- a list of the store gets the content ys -/
theorem inplL {g0 g : G} (e0 : Ext false g0 g) {S : Store} (hS : SOk ca g S) {n : Nat} {ob : Ob} {xs ys : List D} {a : Addr} {vs ws : List V} (eS : S[n]? = some ob) (hr : ob.raw = some (.o xs)) (ea : g.p (.ob n) = some a) (hH : g.H a = some (.lst vs)) (r : RpA g.F g.p ws ys) :
    Ext false g0 ⟨g.F, upd g.H a (.lst ws), g.p⟩ ∧ SOk ca ⟨g.F, upd g.H a (.lst ws), g.p⟩ (S.set n (rL ys)) :=
  ⟨raw_exP e0 ea ⟨_, hH⟩ (fun x y q => by rw [hH] at q; cases q), raw_put hS eS (by rw [Ob.raw_get hr]) ea (fun x y q => by rw [hH] at q; cases q) (rawAt_lst r)⟩
theorem inplK {g0 g : G} (e0 : Ext false g0 g) {S : Store} (hS : SOk ca g S) {n : Nat} {ob : Ob} {xs ys : List (Key × D)} {a : Addr} {vs ws : List (Key × V)} (eS : S[n]? = some ob) (hr : ob.raw = some (.k xs)) (ea : g.p (.ob n) = some a) (hH : g.H a = some (.dK vs)) (r : RpK g.F g.p ws ys) :
    Ext false g0 ⟨g.F, upd g.H a (.dK ws), g.p⟩ ∧ SOk ca ⟨g.F, upd g.H a (.dK ws), g.p⟩ (S.set n (rK ys)) :=
  ⟨raw_exP e0 ea ⟨_, hH⟩ (fun x y q => by rw [hH] at q; cases q), raw_put hS eS (by rw [Ob.raw_get hr]) ea (fun x y q => by rw [hH] at q; cases q) (rawAt_dct r)⟩
theorem ds_rput (hu : X.A.units + 64 < cLine) (ho : DE false X W ca o fo) (hk : DE false X W ca b fb) (ha : DE false X W ca e fa) (hs : swapsWith e (some (.Subscript o b pos')) pos.line X.env = pure false := by rfl) :
    DS false X W ca (.Assign [.Subscript o b pos'] e pos) (sRPut fo fb fa) := by
  obtain ⟨to, po, ko⟩ := ho
  obtain ⟨tk, pk, kk⟩ := hk
  obtain ⟨ta, pa, ka⟩ := ha
  refine ⟨_, ps_dput (by omega) po pk pa hs, fun g0 g S σ env e0 hS hE D h => ?_⟩
  refine ka g0.H g S σ env hS hE _ (sat_mono (stE e0 hE h) (fun d S1 z g1 v e1 s1 r1 => ?_) fun _ _ q => q)
  refine ko g0.H g1 S1 σ env s1 (hE.ext e1) _ (sat_mono (stE (e0.trans e1) (hE.ext e1) (z g1 e1)) (fun x S2 z g2 u e2 s2 r2 => ?_) fun _ _ q => q)
  refine kk g0.H g2 S2 σ env s2 ((hE.ext e1).ext e2) _ (sat_mono (stE ((e0.trans e1).trans e2) ((hE.ext e1).ext e2) (z g2 e2)) (fun y S3 z g3 w e3 s3 r3 => ?_) fun _ _ q => q)
  obtain ⟨n, ob, kvs, rfl, eS, hr, z⟩ := onK_get (z g3 e3)
  obtain ⟨a, vs, rfl, h1, h2, t⟩ := s3.rawK eS hr (e3.rp r2)
  cases e4 : keyD y with
  | none => rw [e4] at z; exact z.elim
  | some k =>
    rw [e4] at z
    dsimp only at z
    by_cases hl : kvs.length < lim
    · rw [if_pos hl] at z
      have tt := t.put (k := k) (e3.rp (e2.rp r1))
      obtain ⟨ex, sx⟩ := inplK (((e0.trans e1).trans e2).trans e3) s3 eS hr h1 h2 tt
      obtain ⟨ex1, -⟩ := inplK (Ext.refl g3) s3 eS hr h1 h2 tt
      refine ⟨a, _, rfl, ?_, (show okS false ca W g0 g3 D (.nx env) (S3.set n (rK (putD kvs k d))) from z) _ σ ex ex1.mo sx ((((hE.ext e1).ext e2).ext e3).ext ex1)⟩
      rw [keyD_v r3 e4]
      exact DPut.k h2 (by rw [t.length]; exact lim_lt' hl)
    · rw [if_neg hl] at z; exact z.elim
theorem de_rpop (ho : DE false X W ca o fo) (hk : DE true X W ca b fb) (m1 : M1 X o "pop" apos b cpos := by exact ⟨rfl, rfl, rfl, rfl⟩) : DE false X W ca (.Call (.Attribute o "pop" apos) [b] [] cpos) (eRPop fo fb) := by
  obtain ⟨to, po, ko⟩ := ho
  obtain ⟨tk, pk, kk⟩ := hk
  refine ⟨_, pe_dpop1 po pk m1, fun H0 g S σ env hS hE Q h => ?_⟩
  refine ko H0 g S σ env hS hE _ (sat_mono (seqE h) (fun x S1 z g1 v e1 s1 r1 => ?_) fun _ _ q => q)
  obtain ⟨n, ob, kvs, rfl, eS, hr, z⟩ := onK_get (z g1 e1)
  obtain ⟨a, vs, rfl, h1, h2, t⟩ := s1.rawK eS hr r1
  refine ⟨a, rfl, .inl ⟨vs, .inl h2⟩, ?_⟩
  refine kk H0 g1 S1 σ env s1 (hE.ext e1) _ (sat_mono (seqE z) (fun y S2 z g2 u e2 s2 r2 => ?_) fun _ _ q => q.dn)
  have e2' : Ext false g1 g2 := e2.down
  obtain ⟨n', ob2, kvs2, en, eS2, hr2, z⟩ := onK_get (z g2 e2')
  cases en
  obtain ⟨a2, vs2, ea, k1, k2, t2⟩ := s2.rawK eS2 hr2 (e2.rp r1)
  cases ea
  cases e4 : keyD y with
  | none => rw [e4] at z; exact z.elim
  | some k =>
    rw [e4] at z
    dsimp only at z
    rcases getK_v t2 k with ⟨q1, q2⟩ | ⟨d, w, q1, q2, q3⟩
    · rw [q1] at z; exact z.elim
    · rw [q1] at z
      obtain ⟨ex, sx⟩ := inplK (Ext.refl g2) s2 eS2 hr2 k1 k2 (t2.drop k)
      exact ⟨vs2, k, w, k2, keyD_v r2 e4, q2, (show okE false ca g2 Q d (S2.set n (rK (dropD kvs2 k))) from z) _ w ex sx q3⟩
theorem ds_rapp (ho : DE false X W ca o fo) (ha : DE false X W ca e fa) (hbase : attributeBase o "append" X.env (eval o X.env) = eval o X.env := by rfl)
    (hfew : ((backTo cpos (starEach [e] X.env)).all (fun x => !x.1) && (backToKw cpos (keywordEach [] X.env)).all (fun x => x.1.isSome) && decide (([e] : List Expr).length + ([] : List Keyword).length + (if ([] : List Keyword).isEmpty then 0 else 1) < 30)) = true := by rfl)
    (hline : (apos.endLine == cpos.line) = true := by rfl) (hs : starEach [e] X.env = (false, eval e X.env) :: starEach [] X.env := by rfl) (hsw : swapsWith (.Call (.Attribute o "append" apos) [e] [] cpos) none pos.line X.env = pure false := by rfl) :
    DS false X W ca (.Expr (.Call (.Attribute o "append" apos) [e] [] cpos) pos) (sRApp fo fa) := by
  obtain ⟨to, po, ko⟩ := ho
  obtain ⟨ta, pa, ka⟩ := ha
  refine ⟨_, ps_expr (pe_bm PySem.F.plainAttrs_list PySem.F.slot_list_append PySem.F.type_list_append mt_append po (pa_cons pa pa_nil hs) hbase hfew hline hs) hsw, fun g0 g S σ env e0 hS hE D h => ?_⟩
  refine ko g0.H g S σ env hS hE _ (sat_mono (stE e0 hE h) (fun x S1 z g1 u e1 s1 r1 => ?_) fun _ _ q => q)
  obtain ⟨n, ob, xs, rfl, eS, hr, z⟩ := onL_get (z g1 e1)
  obtain ⟨a, vs, rfl, h1, h2, t⟩ := s1.rawL eS hr r1
  refine ⟨.inl ⟨rfl, vs, SqL.of h2⟩, ?_⟩
  refine ka g0.H g1 S1 σ env s1 (hE.ext e1) _ (sat_mono (stE (e0.trans e1) (hE.ext e1) z) (fun d S2 z g2 v e2 s2 r2 => ?_) fun _ _ q => q)
  have e2' : Ext false g1 g2 := e2
  obtain ⟨n', ob2, xs2, en, eS2, hr2, z⟩ := onL_get (z g2 e2')
  cases en
  obtain ⟨a2, vs2, ea, k1, k2, t2⟩ := s2.rawL eS2 hr2 (e2.rp r1)
  cases ea
  by_cases hl : xs2.length < lim
  · rw [if_pos hl] at z
    obtain ⟨ex, sx⟩ := inplL ((e0.trans e1).trans e2') s2 eS2 hr2 k1 k2 (t2.append (.one r2))
    obtain ⟨ex1, -⟩ := inplL (Ext.refl g2) s2 eS2 hr2 k1 k2 (t2.append (.one r2))
    refine ⟨_, vs2, v, rfl, rfl, k2, by rw [t2.length]; exact lim_lt' hl, ?_⟩
    exact (show okS false ca W g0 g2 D (.nx env) (S2.set n (rL (xs2 ++ [d]))) from z) _ σ ex ex1.mo sx (((hE.ext e1).ext e2').ext ex1)
  · rw [if_neg hl] at z; exact z.elim
theorem de_rpopL (ho : DE false X W ca o fo) (ha : DE true X W ca e fa) (hbase : attributeBase o "pop" X.env (eval o X.env) = eval o X.env := by rfl)
    (hfew : ((backTo cpos (starEach [e] X.env)).all (fun x => !x.1) && (backToKw cpos (keywordEach [] X.env)).all (fun x => x.1.isSome) && decide (([e] : List Expr).length + ([] : List Keyword).length + (if ([] : List Keyword).isEmpty then 0 else 1) < 30)) = true := by rfl)
    (hline : (apos.endLine == cpos.line) = true := by rfl) (hs : starEach [e] X.env = (false, eval e X.env) :: starEach [] X.env := by rfl) :
    DE false X W ca (.Call (.Attribute o "pop" apos) [e] [] cpos) (eRPopL fo fa) := by
  obtain ⟨to, po, ko⟩ := ho
  obtain ⟨ta, pa, ka⟩ := ha
  refine ⟨_, pe_bm PySem.F.plainAttrs_list PySem.F.slot_list_pop PySem.F.type_list_pop mt_popAt po (pa_cons pa pa_nil hs) hbase hfew hline hs, fun H0 g S σ env hS hE Q h => ?_⟩
  refine ko H0 g S σ env hS hE _ (sat_mono (seqE h) (fun x S1 z g1 u e1 s1 r1 => ?_) fun _ _ q => q)
  obtain ⟨n, ob, xs, rfl, eS, hr, z⟩ := onL_get (z g1 e1)
  obtain ⟨a, vs, rfl, h1, h2, t⟩ := s1.rawL eS hr r1
  refine ⟨.inl ⟨rfl, vs, SqL.of h2⟩, ?_⟩
  refine ka H0 g1 S1 σ env s1 (hE.ext e1) _ (sat_mono (seqE z) (fun i S2 z g2 v e2 s2 r2 => ?_) fun _ _ q => q.dn)
  have e2' : Ext false g1 g2 := e2.down
  obtain ⟨n', ob2, xs2, en, eS2, hr2, z⟩ := onL_get (z g2 e2')
  cases en
  obtain ⟨a2, vs2, ea, k1, k2, t2⟩ := s2.rawL eS2 hr2 (e2.rp r1)
  cases ea
  cases i with
  | int k =>
    dsimp only at z
    cases ej : ixN xs2.length k with
    | none => rw [ej] at z; exact z.elim
    | some j =>
      rw [ej] at z
      dsimp only at z
      cases ed : xs2[j]? with
      | none => rw [ed] at z; exact z.elim
      | some d =>
        rw [ed] at z
        dsimp only at z
        by_cases hl : xs2.length ≤ lim
        · rw [if_pos hl] at z
          obtain ⟨w, w1, w2⟩ := t2.get j ed
          obtain ⟨ex, sx⟩ := inplL (Ext.refl g2) s2 eS2 hr2 k1 k2 (t2.eraseIdx j)
          obtain ⟨i1, i2, i3, i4⟩ := ixN_seq ej
          have hl' : xs2.length ≤ 1000000 := hl
          cases r2
          refine ⟨_, vs2, k, j, w, rfl, rfl, k2, by omega, by omega, by rw [t2.length]; exact i1, w1, ?_⟩
          exact (show okE false ca g2 Q d (S2.set n (rL (xs2.eraseIdx j))) from z) _ w ex sx w2
        · rw [if_neg hl] at z; exact z.elim
  | _ => exact z.elim
/-- a new dict as data -/
def eK (f : En → M (List (Key × D))) : En → M D := fun env => M.bind (f env) fun xs => M.ret (.dct xs)
theorem de_dct {f : En → M (List (Key × D))} (h : DK m X W ca e f) : DE m X W ca e (eK f) := de_ownK h
/-! ### a walk over a list that may change meanwhile -/
def forR (body : En → M Fl) (b : D → En → Option En) (x : D) : Nat → Nat → En → M Fl
  | 0, _, _ => M.bad
  | n + 1, i, env => onL x fun _ xs => match xs[i]? with
    | none => M.ret (.nx env)
    | some d => match b d env with
      | none => M.bad
      | some env1 => M.bind (body env1) fun fl => match fl with
        | .nx e => forR body b x n (i + 1) e
        | .ct e => forR body b x n (i + 1) e
        | .bk e => M.ret (.nx e)
        | o => M.ret o
def sForR (n : Nat) (fo : En → M D) (b : D → En → Option En) (body : En → M Fl) : En → M Fl := fun env => liftS (fo env) env fun x => onL x fun _ _ => forR body b x n 0 env
theorem ds_forR {tg iter : Expr} {body : List Stmt} {b : D → En → Option En} {ks : List Nat} {f : En → M Fl} (N : Nat) (hp : PassesOwn (model X.prog X.w) X.A X.env X.xe) (hc : X.calm = true) (hi : DE false X W ca iter fo) (hg : DG X tg b ks) (hb : DSs false X W ca body f)
    (hs : ∀ x, foldedSetIterable iter X.env x = pure x := by intro _; rfl) : DS false X W ca (.For tg iter body [] pos) (sForR N fo b f) := by
  obtain ⟨ti, pi, ki⟩ := hi
  obtain ⟨tg', pg, kg⟩ := hg
  obtain ⟨tb, pb, kb⟩ := hb
  refine ⟨_, ps_for hp hc (pi_list pi) pg pb hs, fun g0 g S σ env e0 hS hE D h => ?_⟩
  refine ki g0.H g S σ env hS hE _ (sat_mono (stE e0 hE h) (fun x S1 z g1 v e1 s1 r1 => ?_) fun _ _ q => q)
  obtain ⟨n0, ob0, xs0, rfl, eS0, hr0, z⟩ := onL_get (z g1 e1)
  obtain ⟨a, vs0, rfl, h10, h20, t0⟩ := s1.rawL eS0 hr0 r1
  refine ⟨a, rfl, ⟨vs0, SqL.of h20⟩, ?_⟩
  refine ⟨fun i n σ' H' => ∃ g' S' env', H' = g'.H ∧ Ext false g0 g' ∧ Mo false g1 g' ∧ SOk ca g' S' ∧ EnvOk g0.H g' σ' env' ∧ (forR f b (.obj n0) n i env' S').sat (okS false ca W g0 g' D) noX,
    ⟨N, g1, S1, env, rfl, e0.trans e1, Mo.refl _, s1, hE.ext e1, z⟩, ?_⟩
  rintro i n σ' H' ⟨g', S', env', rfl, e2, m2, s2, hE2, k⟩
  cases n with
  | zero => exact k.elim
  | succ n =>
    unfold forR at k
    obtain ⟨n', ob, xs, en, eS, hr, k⟩ := onL_get k
    cases en
    obtain ⟨a', vs, ea, h1, h2, t⟩ := s2.rawL eS hr (m2.rp r1)
    cases ea
    cases ed : xs[i]? with
    | none =>
      rw [ed] at k
      exact .inl ⟨⟨vs, SqL.of h2, by rw [t.length]; exact List.getElem?_eq_none_iff.mp ed⟩, (show okS false ca W g0 g' D (.nx env') S' from k) g' σ' e2 (Mo.refl _) s2 hE2⟩
    | some d =>
      rw [ed] at k
      dsimp only at k
      obtain ⟨w, w1, w2⟩ := t.get i ed
      refine .inr ⟨⟨vs, w, SqL.of h2, w1⟩, fun σ'' H'' => ∃ g'' S'' env'', H'' = g''.H ∧ Ext false g0 g'' ∧ Mo false g1 g'' ∧ SOk ca g'' S'' ∧ EnvOk g0.H g'' σ'' env'' ∧ (forR f b (.obj n0) n (i + 1) env'' S'').sat (okS false ca W g0 g'' D) noX, fun σ'' H'' w => ⟨n, by omega, w⟩, fun x H'' y => ?_⟩
      obtain ⟨rfl, y2⟩ := y
      have := y2 vs (SqL.of h2)
      rw [w1] at this; cases this
      cases eb : b d env' with
      | none => rw [eb] at k; exact k.elim
      | some env1 =>
        rw [eb] at k
        refine kg g0.H g' σ' env' _ _ env1 s2.same hE2 w2 eb _ fun σ1 hE1 _ => ?_
        refine kb g0 g' S' σ1 env1 e2 s2 hE1 _ (sat_mono (sat_bind k) (fun fl S3 q => ?_) fun _ _ q => q)
        have nxt : ∀ {e : En}, (forR f b (.obj n0) n (i + 1) e S3).sat (okS false ca W g0 g' D) noX → ∀ g3 σ3, Ext false g0 g3 → Mo false g' g3 → SOk ca g3 S3 → EnvOk g0.H g3 σ3 e →
            ∃ g'' S'' env'', g3.H = g''.H ∧ Ext false g0 g'' ∧ Mo false g1 g'' ∧ SOk ca g'' S'' ∧ EnvOk g0.H g'' σ3 env'' ∧ (forR f b (.obj n0) n (i + 1) env'' S'').sat (okS false ca W g0 g'' D) noX := fun {e} q g3 σ3 a b c d =>
          ⟨g3, S3, e, rfl, a, m2.trans b, c, d, sat_mono q (fun _ _ q => q.mono b) fun _ _ q => q⟩
        cases fl with
        | nx e => exact fun g3 σ3 a b c d => nxt q g3 σ3 a b c d
        | ct e => exact fun g3 σ3 a b c d => nxt q g3 σ3 a b c d
        | bk e => exact q
        | rt d => exact q
        | rtO d => exact q
        | ex c e => exact q
end
section
variable {n : Nat} {S : Store} {α : Type}
theorem rawV_obj (n : Nat) (S : Store) : rawV (.obj n) S = (match S[n]? with
    | some ob => match ob.raw with
      | some (.o xs) => .ok (.lst xs) S
      | some (.k xs) => .ok (.dct xs) S
      | _ => .ok (.obj n) S
    | none => .bad) := rfl
theorem onL_obj (n : Nat) (k : Nat → List D → M α) (S : Store) : onL (.obj n) k S = (match S[n]? with
    | some ob => match ob.raw with
      | some (.o xs) => k n xs S
      | _ => .bad
    | none => .bad) := rfl
theorem onK_obj (n : Nat) (k : Nat → List (Key × D) → M α) (S : Store) : onK (.obj n) k S = (match S[n]? with
    | some ob => match ob.raw with
      | some (.k xs) => k n xs S
      | _ => .bad
    | none => .bad) := rfl
theorem raw_mk (c : Str) (fs : List (Str × FV)) : Ob.raw ⟨c, fs⟩ = if c = ("" : Str) then (match fs with
  | [(f, w)] => if f = ("" : Str) then some w else none
  | _ => none) else none := rfl
theorem keyD_str (s : Str) : keyD (.str s) = some (.inr s) := rfl
theorem keyD_int (s : Int) : keyD (.int s) = some (.inl s) := rfl
theorem keyD_non : keyD .non = none := rfl
theorem inD_dct_str (s : Str) (kvs : List (Key × D)) : inD (.str s) (.dct kvs) = some (getK kvs (.inr s)).isSome := rfl
theorem inD_dct_int (s : Int) (kvs : List (Key × D)) : inD (.int s) (.dct kvs) = some (getK kvs (.inl s)).isSome := rfl
theorem inD_dct_non (kvs : List (Key × D)) : inD .non (.dct kvs) = some false := rfl
theorem ninD_dct_str (s : Str) (kvs : List (Key × D)) : ninD (.str s) (.dct kvs) = some (!(getK kvs (.inr s)).isSome) := rfl
theorem ninD_dct_non (kvs : List (Key × D)) : ninD .non (.dct kvs) = some true := rfl
theorem dgetD_str (s : Str) (kvs : List (Key × D)) : dgetD (.dct kvs) (.str s) = getK kvs (.inr s) := rfl
theorem dgetD_int (s : Int) (kvs : List (Key × D)) : dgetD (.dct kvs) (.int s) = getK kvs (.inl s) := rfl
theorem getN_str (s : Str) (kvs : List (Key × D)) : getN kvs (.str s) = some ((getK kvs (.inr s)).getD .non) := rfl
theorem getN_int (s : Int) (kvs : List (Key × D)) : getN kvs (.int s) = some ((getK kvs (.inl s)).getD .non) := rfl
theorem getN_non (kvs : List (Key × D)) : getN kvs .non = some .non := rfl
end
end Dn

namespace Dn
open PySem L2 PyProof.Rows
/-! ### dict displays -/
def mergeD (kvs more : List (Key × D)) : List (Key × D) := more.foldl (fun acc kv => putD acc kv.1 kv.2) kvs
theorem RpK.merge {F : Hp} {p : Pi} : ∀ {ms : List (Key × V)} {es : List (Key × D)}, RpK F p ms es → ∀ {vs : List (Key × V)} {ds : List (Key × D)}, RpK F p vs ds → RpK F p (mergeK vs ms) (mergeD ds es)
  | _, _, .nil, _, _, r => r
  | _, _, .cons h t, _, _, r => RpK.merge t (r.put h)
def DPs (m : Bool) (X : Cx) (W : WX) (ca : Ct) (pos : Pos) (keys : List (Option Expr)) (values : List Expr) (f : En → M (List (Key × D))) : Prop :=
  ∃ trs, PPs X pos keys values trs ∧ ∀ H0 g S σ env, SOk ca g S → EnvOk H0 g σ env → ∀ Q : List (V × V) → Hp → Prop,
    (f env S).sat (fun kvs S' => ∀ g' vs, Ext m g g' → SOk ca g' S' → RpK g'.F g'.p vs kvs → Q (vs.map fun kv => (kV kv.1, kv.2)) g'.H) (exE m ca W g σ) → tPairs trs σ g.H Q
def pNil : En → M (List (Key × D)) := fun _ => M.ret []
def pCons (k : En → M D) (f : En → M D) (r : En → M (List (Key × D))) : En → M (List (Key × D)) := fun env => M.bind (k env) fun y => M.bind (f env) fun d => M.bind (r env) fun ds => match keyD y with
  | some q => M.ret ((q, d) :: ds)
  | none => M.bad
def kDisp (f : En → M (List (Key × D))) : En → M (List (Key × D)) := fun env => M.bind (f env) fun kvs => if kvs.length ≤ 15 then M.ret (mergeD [] kvs) else M.bad
section
variable {m : Bool} {X : Cx} {W : WX} {ca : Ct} {pos : Pos} {k v : Expr} {ks : List (Option Expr)} {vs : List Expr} {fk fv : En → M D} {fr f : En → M (List (Key × D))}
theorem dps_nil : DPs m X W ca pos [] [] pNil := ⟨[], pps_nil, fun H0 g S σ env hS hE Q h => h g [] (Ext.refl g) hS .nil⟩
theorem dps_cons (hk : DE m X W ca k fk) (hv : DE m X W ca v fv) (hr : DPs m X W ca pos ks vs fr) : DPs m X W ca pos (some k :: ks) (v :: vs) (pCons fk fv fr) := by
  obtain ⟨tk, pk, kk⟩ := hk
  obtain ⟨tv, pv, kv⟩ := hv
  obtain ⟨trs, pr, kr⟩ := hr
  refine ⟨_, pps_cons pk pv pr, fun H0 g S σ env hS hE Q h => ?_⟩
  have mono : ∀ g g' (kvs : List (Key × D)) (S' : Store), Ext m g g' → (∀ g2 vs, Ext m g g2 → SOk ca g2 S' → RpK g2.F g2.p vs kvs → Q (vs.map fun kv => (kV kv.1, kv.2)) g2.H) → (∀ g2 vs, Ext m g' g2 → SOk ca g2 S' → RpK g2.F g2.p vs kvs → Q (vs.map fun kv => (kV kv.1, kv.2)) g2.H) := fun g g' kvs S' e h g2 vs e2 => h g2 vs (e.trans e2)
  have h : (M.bind (fk env) (fun y => M.bind (fv env) fun d => M.bind (fr env) fun ds => match keyD y with
    | some q => M.ret ((q, d) :: ds)
    | none => M.bad) S).sat (fun kvs S' => ∀ g' vs, Ext m g g' → SOk ca g' S' → RpK g'.F g'.p vs kvs → Q (vs.map fun kv => (kV kv.1, kv.2)) g'.H) (exE m ca W g σ) := h
  refine kk H0 g S σ env hS hE _ (sat_mono (seqI (g := g) (P := fun g kvs S' => ∀ g' vs, Ext m g g' → SOk ca g' S' → RpK g'.F g'.p vs kvs → Q (vs.map fun kv => (kV kv.1, kv.2)) g'.H) mono h) (fun y S1 z g1 u e1 s1 r1 => ?_) fun _ _ q => q)
  refine kv H0 g1 S1 σ env s1 (hE.ext e1) _ (sat_mono (seqI (g := g1) (P := fun g kvs S' => ∀ g' vs, Ext m g g' → SOk ca g' S' → RpK g'.F g'.p vs kvs → Q (vs.map fun kv => (kV kv.1, kv.2)) g'.H) mono (z g1 e1)) (fun d S2 z g2 w e2 s2 r2 => ?_) fun _ _ q => q)
  refine kr H0 g2 S2 σ env s2 ((hE.ext e1).ext e2) _ (sat_mono (seqI (g := g2) (P := fun g kvs S' => ∀ g' vs, Ext m g g' → SOk ca g' S' → RpK g'.F g'.p vs kvs → Q (vs.map fun kv => (kV kv.1, kv.2)) g'.H) mono (z g2 e2)) (fun ds S3 z g3 vs e3 s3 r3 => ?_) fun _ _ q => q)
  have z := z g3 e3
  cases e4 : keyD y with
  | none => rw [e4] at z; exact z.elim
  | some q =>
    rw [e4] at z
    have ey : u = kV q := keyD_v r1 e4
    subst ey
    have r : RpK g3.F g3.p ((q, w) :: vs) ((q, d) :: ds) := .cons (e3.rp r2) r3
    exact (show ∀ g' vs, Ext m g3 g' → SOk ca g' S3 → RpK g'.F g'.p vs ((q, d) :: ds) → Q (vs.map fun kv => (kV kv.1, kv.2)) g'.H from z) g3 _ (Ext.refl _) s3 r
theorem dk_disp {keys : List (Option Expr)} {values : List Expr} (h : DPs m X W ca pos keys values f) (hall : keys.all (·.isSome) = true := by rfl) (hl : keys.length = values.length := by rfl) (h0 : keys ≠ [] := by intro h; cases h) (h15 : keys.length ≤ 15 := by decide) : DK m X W ca (.Dict keys values pos) (kDisp f) := by
  obtain ⟨trs, p, k⟩ := h
  refine ⟨_, pe_disp p hall hl h0 h15, fun H0 g S σ env hS hE Q h => ?_⟩
  intro a ha
  have e1 := ext_nw (m := m) hS ha (.dK [])
  have s1 := sok_nw hS ha (.dK [])
  refine k H0 (g.nw a (.dK [])) S σ env s1 (hE.ext e1) _ (sat_mono (sat_bind h) (fun kvs S' z g' vs e2 s2 r => ?_) fun c S' q => q.mono e1)
  obtain ⟨t1, t2, t3⟩ := e2.stay a (.dK []) upd_same (hS.free ha) (hS.nop ha)
  by_cases c : kvs.length ≤ 15
  · rw [if_pos c] at z
    refine ⟨t1, vs, rfl, by rw [r.length]; exact c, ?_⟩
    exact (show okK m ca g Q (mergeD [] kvs) S' from z) (g'.wr a (.dK (mergeK [] vs))) a (mergeK [] vs) (ext_wr (e1.trans e2) ha) (sok_wr s2 t1 (by intro _ _ h; cases h) t2 t3) ha upd_same t2 t3 (RpK.merge r .nil)
  · rw [if_neg c] at z; exact z.elim
/-! ### x, y = a, b -/
def sPar2 (i j : Nat) (a : En → M (List D)) : En → M Fl := fun env => liftS (a env) env fun ds => match ds with
  | [x, y] => M.ret (.nx ((env.set i (.f x)).set j (.f y)))
  | _ => M.bad
def sPar3 (i j l : Nat) (a : En → M (List D)) : En → M Fl := fun env => liftS (a env) env fun ds => match ds with
  | [x, y, z] => M.ret (.nx (((env.set i (.f x)).set j (.f y)).set l (.f z)))
  | _ => M.bad
theorem ds_par2 (i j : Nat) {x y : Str} {a b : Expr} {px py pt pt2 : Pos} {kt k2 : Nat} {fa : En → M (List D)} (hc : X.calm = true) (hN : X.N.Nodup) (hi : X.N[i]? = some x) (hj : X.N[j]? = some y) (hx : X.env.scope.names.lookup x = some .local) (hy : X.env.scope.names.lookup y = some .local) (ha : DA m X W ca [a, b] fa) (hij : i ≠ j := by decide)
    (hw : swappedStores [.Tuple [.Name x px, .Name y py] kt pt] (.Tuple [a, b] k2 pt2) X.env = pure (some [x, y]) := by rfl) (hs : swapsWithSole [.Tuple [.Name x px, .Name y py] kt pt] (.Tuple [a, b] k2 pt2) pos.line X.env = pure false := by rfl) :
    DS m X W ca (.Assign [.Tuple [.Name x px, .Name y py] kt pt] (.Tuple [a, b] k2 pt2) pos) (sPar2 i j fa) := by
  obtain ⟨t, p, k⟩ := ha
  refine ⟨_, ps_par hc hN hi hj hij hx hy p hw hs, fun g0 g S σ env e0 hS hE D h => ?_⟩
  refine k g0.H g S σ env hS hE _ (sat_mono (stE e0 hE h) (fun ds S1 q g1 vs e1 s1 r1 => ?_) fun _ _ q => q)
  have q := q g1 e1
  cases r1 with
  | nil => exact q.elim
  | cons r r' =>
    cases r' with
    | nil => exact q.elim
    | cons r2 r'' =>
      cases r'' with
      | cons _ _ => exact q.elim
      | nil => exact ⟨_, _, rfl, (show okS m ca W g0 g1 D (.nx _) S1 from q) g1 _ (e0.trans e1) (Mo.refl _) s1 (((hE.ext e1).set i r).set j r2)⟩
theorem ds_par3 (i j l : Nat) {x y z : Str} {a b c : Expr} {px py pz pt pt2 : Pos} {kt k2 : Nat} {fa : En → M (List D)} (hc : X.calm = true) (hN : X.N.Nodup) (hi : X.N[i]? = some x) (hj : X.N[j]? = some y) (hl : X.N[l]? = some z) (hx : X.env.scope.names.lookup x = some .local) (hy : X.env.scope.names.lookup y = some .local) (hz : X.env.scope.names.lookup z = some .local) (ha : DA m X W ca [a, b, c] fa) (hij : i ≠ j := by decide) (hil : i ≠ l := by decide) (hjl : j ≠ l := by decide)
    (hw : swappedStores [.Tuple [.Name x px, .Name y py, .Name z pz] kt pt] (.Tuple [a, b, c] k2 pt2) X.env = pure (some [x, y, z]) := by rfl) (hs : swapsWithSole [.Tuple [.Name x px, .Name y py, .Name z pz] kt pt] (.Tuple [a, b, c] k2 pt2) pos.line X.env = pure false := by rfl) :
    DS m X W ca (.Assign [.Tuple [.Name x px, .Name y py, .Name z pz] kt pt] (.Tuple [a, b, c] k2 pt2) pos) (sPar3 i j l fa) := by
  obtain ⟨t, p, k⟩ := ha
  refine ⟨_, ps_par3 hc hN hi hj hl hij hil hjl hx hy hz p hw hs, fun g0 g S σ env e0 hS hE D h => ?_⟩
  refine k g0.H g S σ env hS hE _ (sat_mono (stE e0 hE h) (fun ds S1 q g1 vs e1 s1 r1 => ?_) fun _ _ q => q)
  have q := q g1 e1
  cases r1 with
  | nil => exact q.elim
  | cons r r' =>
    cases r' with
    | nil => exact q.elim
    | cons r2 r'' =>
      cases r'' with
      | nil => exact q.elim
      | cons r3 r3' =>
        cases r3' with
        | cons _ _ => exact q.elim
        | nil => exact ⟨_, _, _, rfl, (show okS m ca W g0 g1 D (.nx _) S1 from q) g1 _ (e0.trans e1) (Mo.refl _) s1 ((((hE.ext e1).set i r).set j r2).set l r3)⟩
end
end Dn

namespace Dn
open PySem L2 PyProof.Rows PySem.Spec
/-! ### list.remove, list.clear -/
section
variable {X : Cx}
def rRemD (K : PySem.W.Frag) : V → List V → Hp → VK → Prop := fun x xs H Q => ∃ (l : Addr) (vs : List V) (y : V) (d : PyData) (ds : List PyData) (j : Nat) (z : PyData), x = .ref l ∧ xs = [y] ∧ H l = some (.lst vs) ∧ DpAll K H vs ds ∧ Dp K H y d ∧
  SeqAt.shaped (.list ds) = true ∧ SeqAt.shaped d = true ∧ ds[j]? = some z ∧ PyData.eqv z d = true ∧ (∀ (m : Nat) (z' : PyData), m < j → ds[m]? = some z' → PyData.eqv z' d = false) ∧ Q .non (upd H l (.lst (vs.eraseIdx j)))
theorem vals_erase : ∀ {vs : List V} {us : List Value} (j : Nat), Vals vs us → Vals (vs.eraseIdx j) (us.eraseIdx j)
  | _, _, _, .nil => by simp; exact .nil
  | _, _, 0, .cons h t => t
  | _, _, j + 1, .cons h t => .cons h (vals_erase j t)
theorem mt_removeD (hu : X.A.units + 65 < cLine) : MtM X "list.remove" (rRemD X.K) := by
  intro pins s σ H x xs v us Q I rx rxs h
  obtain ⟨a, vs, y, d, ds, j, z, rfl, rfl, hH, ha, hy, sl, sd, hz, hzj, hno, q⟩ := h
  cases rx
  obtain ⟨uy, rfl, ry⟩ := rxs.one
  obtain ⟨bs, r1⟩ := Dp.reads I d y uy hy ry
  have hxs : PyData.canLayAll0 ds = true := SeqAt.canLay_of_shaped sl
  have hroom : X.A.units + 1 + min (PyData.depthAll ds) d.depth < cLine := room_in_shaped sd hu
  obtain ⟨zz, its, n, rv, hlo, e⟩ := I.lstM hH
  obtain ⟨as, h4⟩ := Dp.readsAll I ds _ its ha rv
  have hn : its.length = ds.length := SeqAt.ReadsAll.length ds its as h4
  have hmap : its.map (SeqAt.readOf s.heap) = ds := SeqAt.readsAll_map ds its as hxs h4
  obtain ⟨hjd, _⟩ := List.getElem?_eq_some_iff.mp hz
  have hjl : j < its.length := by omega
  have hj : j < its.toArray.size := by simpa using hjl
  have at_ : ∀ (m : Nat) (hm : m < its.toArray.size) (z' : PyData), ds[m]? = some z' → SeqAt.readOf s.heap its.toArray[m] = z' := by
    intro m hm z' hz'
    have hml : m < its.length := by simpa using hm
    rw [← hmap, List.getElem?_map, List.getElem?_eq_getElem hml] at hz'
    have e1 : SeqAt.readOf s.heap its[m] = z' := Option.some.inj (show some (SeqAt.readOf s.heap its[m]) = some z' from hz')
    simpa using e1
  refine call_meets PySem.F.slot_list_remove ⟨_, e, rfl⟩ PySem.F.entry_list_remove (PySem.F.args_list_remove_2 _ _)
    (SeqAt.list_removeAt a its.toArray n none #[] uy (fun u => PyData.eqv (SeqAt.readOf s.heap u) d) j hj ?_ ?_ (by rw [List.size_toArray]; omega)) ⟨e, SeqAt.items_eqAt (vs := its.toArray) (show ReadsAll s.heap its.toArray.toList ds as from h4) r1 hxs (SeqAt.canLay_of_shaped sd) hroom, ?_⟩
  · show PyData.eqv (SeqAt.readOf s.heap its.toArray[j]) d = true
    rw [at_ j hj z hz]
    exact hzj
  · intro m hm hmj
    have hmd : m < ds.length := by omega
    have hz' : ds[m]? = some ds[m] := List.getElem?_eq_getElem hmd
    show PyData.eqv (SeqAt.readOf s.heap its.toArray[m]) d = false
    rw [at_ m hm _ hz']
    exact hno m _ hmj hz'
  · have rr := vals_erase j rv
    refine ⟨.non, _, I.lset (its' := its.eraseIdx j) (t' := s.toks) hH e ?_ rr ?_, rfl, q⟩
    · show its.toArray.eraseIdxIfInBounds j = (its.eraseIdx j).toArray
      rw [List.eraseIdxIfInBounds_toArray]
    · have z2 : (vs.eraseIdx j).length ≤ vs.length := by rw [List.length_eraseIdx]; split <;> omega
      omega
end
section
variable {m : Bool} {X : Cx} {W : WX} {ca : Ct} {a b e : Expr} {fa fb : En → M D} {pos : Pos}
def findP (d : PyData) (ds : List PyData) : Option Nat := ds.findIdx? fun z => PyData.eqv z d
def sRem (i : Nat) (a : En → M D) : En → M Fl := onO i fun env xs => liftS (a env) env fun d => if shpD d = true ∧ shpD (.lst xs) = true then (match findP (toPy d) (toPyA xs) with
  | some j => M.ret (.nx (env.set i (.o (xs.eraseIdx j))))
  | none => M.bad) else M.bad
theorem RpA.erase {F : Hp} {p : Pi} : ∀ {vs : List V} {ds : List D} (j : Nat), RpA F p vs ds → RpA F p (vs.eraseIdx j) (ds.eraseIdx j)
  | _, _, _, .nil => by simp; exact .nil
  | _, _, 0, .cons h t => t
  | _, _, j + 1, .cons h t => .cons h (RpA.erase j t)
theorem ds_rem {x : Str} {p0 apos cpos : Pos} (i : Nat) (hu : X.A.units + 65 < cLine) (ha : DE m X W ca a fa) (hK : ca.K = X.K := by rfl) (hN : X.N[i]? = some x := by rfl) (hv : Vis X.env.scope x := by first | exact Or.inl rfl | exact Or.inr (Or.inl rfl) | exact Or.inr (Or.inr rfl)) (hd : (x == ("__debug__" : Str)) = false := by decide)
    (hcd : (x == ("__classdict__" : Str)) = false := by decide) (hbase : attributeBase (.Name x p0) "remove" X.env (eval (.Name x p0) X.env) = eval (.Name x p0) X.env := by rfl)
    (hfew : ((backTo cpos (starEach [a] X.env)).all (fun x => !x.1) && (backToKw cpos (keywordEach [] X.env)).all (fun x => x.1.isSome) && decide (([a] : List Expr).length + ([] : List Keyword).length + (if ([] : List Keyword).isEmpty then 0 else 1) < 30)) = true := by rfl)
    (hline : (apos.endLine == cpos.line) = true := by rfl) (hs : starEach [a] X.env = (false, eval a X.env) :: starEach [] X.env := by rfl) (hsw : swapsWith (.Call (.Attribute (.Name x p0) "remove" apos) [a] [] cpos) none pos.line X.env = pure false := by rfl) :
    DS m X W ca (.Expr (.Call (.Attribute (.Name x p0) "remove" apos) [a] [] cpos) pos) (sRem i fa) := by
  obtain ⟨t, p, k⟩ := ha
  refine ⟨_, ps_expr (pe_bm PySem.F.plainAttrs_list PySem.F.slot_list_remove PySem.F.type_list_remove (mt_removeD hu) (pe_var hN hv hd hcd) (pa_cons p pa_nil hs) hbase hfew hline hs) hsw, fun g0 g S σ env e0 hS hE D h => ?_⟩
  obtain ⟨xs, e, h⟩ := onO_get h
  obtain ⟨q, vs, es, hq, r, hn⟩ := hE.lst e
  refine ⟨_, es, .inl ⟨rfl, vs, SqL.of hq⟩, ?_⟩
  refine k g0.H g S σ env hS hE _ (sat_mono (stE e0 hE h) (fun d S1 z g1 v e1 s1 r1 => ?_) fun _ _ q => q)
  have z := z g1 e1
  obtain ⟨hn1, hq1⟩ := hn.ext hq e1
  by_cases c : shpD d = true ∧ shpD (.lst xs) = true
  · rw [if_pos c] at z
    cases f : findP (toPy d) (toPyA xs) with
    | none => rw [f] at z; exact z.elim
    | some j =>
      rw [f] at z
      have rr := e1.rpA r
      have c2 : SeqAt.shaped (.list (toPyA xs)) = true := c.2
      obtain ⟨hj, hj1, hj2⟩ := List.findIdx?_eq_some_iff_getElem.mp f
      have y1 := dp_of (K := X.K) s1.same r1 (SeqAt.canLay_of_shaped c.1)
      have y2 := dpA_of (K := X.K) s1.same rr (SeqAt.canLay_of_shaped c2)
      exact ⟨q, vs, v, toPy d, toPyA xs, j, (toPyA xs)[j], rfl, rfl, hq1, y2, y1, c2, c.1, List.getElem?_eq_getElem hj, hj1, fun m' z' hm hz => by
        obtain ⟨hl, rfl⟩ := List.getElem?_eq_some_iff.mp hz
        simpa using hj2 m' hm, wr_nx (W := W) (e0.trans e1) s1 (hE.ext e1) e es hq1 hn1 (RpA.erase j rr) z⟩
  · rw [if_neg c] at z; exact z.elim
def sClr (i : Nat) : En → M Fl := onO i fun env xs => M.ret (.nx (env.set i (.o [])))
/-! ### reversed -/
theorem itv_ok {q m : Bool} {ca : Ct} {K : PySem.W.Frag} {g : G} {a : Addr} {vs : List V} {ds : List D} (h : ∀ g' S, Rq q m g g' → SOk ca g' S → SqL K g'.H a vs) (r : RpA g.F g.p vs ds) : ItOk q m ca g (Itv K a vs.length) ds.reverse := fun g' S e hS i => by
  have h' := h g' S e hS
  have r' := e.mo.rpA r
  refine ⟨fun d hd => ?_, fun hl => by show vs.length ≤ i; rw [r'.length]; simpa using hl⟩
  obtain ⟨hi, rfl⟩ := List.getElem?_eq_some_iff.mp hd
  have hi2 : i < ds.length := by simpa using hi
  have e1 : ds[ds.length - 1 - i]? = some ds.reverse[i] := by rw [List.getElem_reverse]; exact List.getElem?_eq_getElem (by omega)
  obtain ⟨v, h1, h2⟩ := r'.get _ e1
  rw [← r'.length] at h1
  refine ⟨⟨by rw [r'.length]; exact hi2, vs, v, h', h1⟩, fun x H' y => ?_⟩
  obtain ⟨y1, y2⟩ := y
  have := y2 vs h'
  rw [h1] at this; cases this
  exact ⟨y1, h2⟩
def iRv (a : En → M D) : En → M (List D) := fun env => M.bind (a env) fun x => match x with
  | .lst xs => M.ret xs.reverse
  | _ => M.bad
theorem di_rev {q : Bool} {p : Pos} (ha : DE m X W ca a fa) (hK : ca.K = X.K := by rfl) (hg : Gl X "reversed" := by rfl) (hm : X.mg "reversed" = none := by assumption) (hs : starEach [a] X.env = [(false, eval a X.env)] := by rfl) : DI q m X W ca (.Call (.Name "reversed" p) [a] [] pos) (iRv fa) := by
  obtain ⟨t, pa, k⟩ := ha
  refine ⟨_, fun tg => pi_reversed hg hm (pa_cons pa pa_nil hs) (hs := hs), fun H0 g S σ env hS hE R h => ?_⟩
  refine k H0 g S σ env hS hE _ (sat_mono (seqI (P := itP q m ca R) itP.mono h) (fun x S1 z g1 v e1 s1 r1 => ?_) fun _ _ q => q)
  have z := z g1 e1
  cases r1 with
  | lst h1 t1 => exact ⟨_, _, rfl, SqL.of (s1.same _ _ h1), (show itP q m ca R g1 _ S1 from z) g1 _ (Ext.refl _) s1 (itv_ok (fun g' S e hS => SqL.of (hS.same _ _ (e.mo.same _ _ h1))) t1)⟩
  | _ => exact z.elim
end
end Dn

namespace Dn
open PySem L2 PyProof.Rows PySem.Spec
/-! ### max(xs, default=d) -/
theorem dep_ints : ∀ ns : List Int, PyData.depthAll (ns.map PyData.int) = 0
  | [] => rfl
  | n :: ns => by
    have ih := dep_ints ns
    rw [List.map_cons]
    simp only [PyData.depthAll, PyData.depth, ih]
    rfl
theorem top_ints (n : Int) : ∀ ns : List Int, ns.foldl max n ∈ n :: ns ∧ ∀ y ∈ n :: ns, y ≤ ns.foldl max n
  | [] => ⟨List.mem_cons_self, fun y hy => by
    simp only [List.mem_cons, List.not_mem_nil, or_false] at hy
    rw [hy]; exact Int.le_refl _⟩
  | k :: r => by
    obtain ⟨h1, h2⟩ := top_ints (max n k) r
    rw [List.foldl_cons]
    refine ⟨?_, fun y hy => ?_⟩
    · rcases List.mem_cons.mp h1 with e | e
      · rw [e]
        by_cases c : n ≤ k
        · rw [Int.max_eq_right c]; exact List.mem_cons_of_mem _ List.mem_cons_self
        · rw [Int.max_eq_left (by omega)]; exact List.mem_cons_self
      · exact List.mem_cons_of_mem _ (List.mem_cons_of_mem _ e)
    · have t := h2 (max n k) List.mem_cons_self
      rcases List.mem_cons.mp hy with rfl | hy
      · omega
      · rcases List.mem_cons.mp hy with rfl | hy
        · omega
        · exact h2 y (List.mem_cons_of_mem _ hy)
def rMaxDf (K : PySem.W.Frag) : List V → List V → Hp → VK → Prop := fun vs zs H Q => ∃ (a : Addr) (ns : List Int) (z : V), vs = [.ref a] ∧ zs = [z] ∧ SqL K H a (ns.map V.int) ∧ (ns = [] → Q z H) ∧ ∀ m ∈ ns, (∀ y ∈ ns, y ≤ m) → Q (.int m) H
theorem cr_maxDf {X : Cx} (hc : X.calm = true) (hu : X.A.units + 64 < cLine) : CallRK X (.builtin "max") [Str.ofString "default"] (rMaxDf X.K) := by
  intro pins s σ H xs zs us ws Q I rx rz h
  obtain ⟨a, ns, z, rfl, rfl, hs, q0, q1⟩ := h
  obtain ⟨its, rv, hl, _⟩ := I.list hs
  obtain ⟨u, rfl, ru⟩ := vals1 rx
  obtain rfl : u = Value.ref a := ru
  obtain ⟨w, rfl, rw_⟩ := vals1 rz
  obtain ⟨as, h4⟩ := Dp.readsAll I (ns.map PyData.int) _ its (ints_dp ns) rv
  refine PySem.W.max_list_default (vs := its.toArray) (xs := ns.map PyData.int) (I.ok.hd hc) hl.isList h4 ⟨fun x hx y hy => ?_, fun x hx => ?_⟩ (by rw [dep_ints]; omega) (fun e h' tk hk => ?_) fun y ys i v h' tk bs e hv rd hk => ?_
  · obtain ⟨i, _, rfl⟩ := List.mem_map.mp hx
    obtain ⟨j, _, rfl⟩ := List.mem_map.mp hy
    rfl
  · obtain ⟨i, _, rfl⟩ := List.mem_map.mp hx
    exact fun e => by cases e
  · exact ⟨z, H, I.kept hk, rw_, q0 (List.map_eq_nil_iff.mp e)⟩
  · cases ns with
    | nil => cases e
    | cons n r =>
      rw [List.map_cons] at e
      injection e with e1 e2
      subst e1 e2
      rw [PySem.W.maxD_ints] at rd
      obtain ⟨t1, t2⟩ := top_ints n r
      cases rd with
      | int _ t => exact ⟨.int _, H, I.kept hk, ⟨t, rfl⟩, q1 _ t1 t2⟩
section
variable {m : Bool} {X : Cx} {W : WX} {ca : Ct} {a b c e : Expr} {fa fb fc : En → M D} {pos : Pos}
def eMaxD (fa fc : En → M D) : En → M D := fun env => M.bind (fa env) fun x => M.bind (fc env) fun y => match x with
  | .lst xs => M.lift ((intsD xs).map fun ns => match greatest ns with
    | some z => .int z
    | none => y)
  | _ => M.bad
theorem greatest_none {ns : List Int} (h : greatest ns = none) : ns = [] := by
  cases ns with
  | nil => rfl
  | cons n r => unfold greatest at h; split at h <;> cases h
theorem de_maxDf {p kp : Pos} (hc : X.calm = true) (hu : X.A.units + 64 < cLine) (ha : DB m X W ca a fa) (hd : DE m X W ca c fc) (hK : ca.K = X.K := by rfl) (hg : Gl X "max" := by rfl) (hm : X.mg "max" = none := by assumption)
    (hs : starEach [a] X.env = (false, eval a X.env) :: starEach [] X.env := by rfl) (he : backTo pos (starEach [a] X.env) = (false, eval a X.env) :: backTo pos (starEach [] X.env) := by rfl) (hpl : (backTo pos (starEach [a] X.env)).any (·.1) = false := by rfl)
    (hall : (backToKw pos (keywordEach [⟨some "default", c, kp⟩] X.env)).all (·.1.isSome) = true := by rfl) (hnone : (backToKw pos (keywordEach [⟨some "default", c, kp⟩] X.env)).any (·.1.isNone) = false := by rfl) (hks : (backToKw pos (keywordEach [⟨some "default", c, kp⟩] X.env)).filterMap (·.1) = [Str.ofString "default"] := by rfl) :
    DE m X W ca (.Call (.Name "max" p) [a] [⟨some "default", c, kp⟩] pos) (eMaxD fa fc) := by
  obtain ⟨t, pa, ka⟩ := ha
  obtain ⟨t2, pc, kc⟩ := hd
  refine ⟨_, pe_callBK (cr_maxDf hc hu) hg hm (by decide +kernel) (pa_cons pa pa_nil hs) (pk_cons pc pk_nil) (by decide) (by decide) he hpl hall hnone hks, fun H0 g S σ env hS hE Q h => ?_⟩
  refine ka H0 g S σ env hS hE _ (sat_mono (seqE h) (fun x S1 q g1 v e1 s1 r1 => ?_) fun _ _ q => q)
  refine kc H0 g1 S1 σ env s1 (hE.ext e1) _ (sat_mono (seqE (q g1 e1)) (fun y S2 q2 g2 u e2 s2 r2 => ?_) fun _ _ q => q)
  have q2 := q2 g2 e2
  have r1' := r1.ext s2 e2
  cases x with
  | lst xs =>
    obtain ⟨z, hz, k⟩ := sat_lift q2
    cases e3 : intsD xs with
    | none => rw [e3] at hz; cases hz
    | some ns =>
      rw [e3] at hz
      obtain ⟨b, vs, rfl, h1, h2⟩ := r1'.lst s2
      cases ints_v h2 e3
      refine ⟨b, ns, u, rfl, rfl, by rw [← hK]; exact SqL.of h1, fun e => ?_, fun w hw hle => ?_⟩
      · subst e
        cases hz
        exact k g2 _ (Ext.refl _) s2 r2
      · cases e4 : greatest ns with
        | none => rw [greatest_none e4] at hw; cases hw
        | some y' =>
          rw [Option.map_some, e4] at hz
          cases hz
          cases greatest_is e4 hw hle
          exact k g2 _ (Ext.refl _) s2 (.int _)
  | _ => exact q2.elim
/-! ### sorted, of pairs of ints -/
def prD : D → Option (Int × Int)
  | .tup [.int i, .int j] => some (i, j)
  | _ => none
def prsD : List D → Option (List (Int × Int))
  | [] => some []
  | d :: ds => (prD d).bind fun p => (prsD ds).map fun ps => p :: ps
def prE (p : Int × Int) : D := .tup [.int p.1, .int p.2]
def leP (p q : Int × Int) : Bool := !SrtO.lexB q p
def sortP (ps : List (Int × Int)) : List (Int × Int) := ps.mergeSort leP
def oSortP (fa : En → M D) : En → M (List D) := fun env => M.bind (fa env) fun x => match x with
  | .lst xs => M.lift ((prsD xs).map fun ps => (sortP ps).map prE)
  | _ => M.bad
theorem prD_is {d : D} {p : Int × Int} (h : prD d = some p) : d = prE p := by
  unfold prD at h
  split at h
  · cases h; rfl
  · cases h
theorem prsD_is : ∀ {ds : List D} {ps : List (Int × Int)}, prsD ds = some ps → ds = ps.map prE
  | [], _, h => by cases h; rfl
  | d :: ds, ps, h => by
    unfold prsD at h
    cases e : prD d with
    | none => rw [e] at h; cases h
    | some p =>
      rw [e, Option.bind_some] at h
      cases e2 : prsD ds with
      | none => rw [e2] at h; cases h
      | some qs =>
        rw [e2] at h; cases h
        rw [prD_is e, prsD_is e2]; rfl
theorem prsD_map : ∀ ps : List (Int × Int), prsD (ps.map prE) = some ps
  | [] => rfl
  | p :: ps => by
    rw [List.map_cons]
    unfold prsD
    rw [show prD (prE p) = some p from rfl, Option.bind_some, prsD_map ps]
    rfl
/-- the pair that an address stands for -/
def keyF (F : Hp) : V → Int × Int
  | .ref a => match F a with
    | some (.tup [.int i, .int j]) => (i, j)
    | _ => (0, 0)
  | _ => (0, 0)
theorem keyF_is {F : Hp} {p : Pi} {v : V} {q : Int × Int} (r : Rp F p v (prE q)) : ∃ t, v = .ref t ∧ F t = some (.tup [.int q.1, .int q.2]) ∧ keyF F v = q := by
  cases r with
  | tup h t =>
    cases t with
    | cons h1 t =>
      cases t with
      | cons h2 t =>
        cases t
        cases h1
        cases h2
        exact ⟨_, rfl, h, by unfold keyF; simp only [h]⟩
theorem leP_lex {p q : Int × Int} : leP p q = true ↔ p.1 < q.1 ∨ (p.1 = q.1 ∧ p.2 ≤ q.2) := by
  unfold leP
  rw [Bool.not_eq_true', SrtO.lexB_no]
  omega
theorem sortP_sorted (ps : List (Int × Int)) : (sortP ps).Pairwise fun a b => leP a b = true := by
  refine List.pairwise_mergeSort (fun a b c h1 h2 => ?_) (fun a b => ?_) ps
  · rw [leP_lex] at *
    omega
  · rw [Bool.or_eq_true, leP_lex, leP_lex]
    omega
theorem sortP_perm (ps : List (Int × Int)) : (sortP ps).Perm ps := List.mergeSort_perm ps leP
theorem sort_uniq : ∀ {l m : List (Int × Int)}, l.Perm m → l.Pairwise (fun a b => leP a b = true) → m.Pairwise (fun a b => leP a b = true) → l = m
  | [], m, h, _, _ => by rw [List.nil_perm.mp h]
  | a :: l, [], h, _, _ => by have := h.length_eq; simp at this
  | a :: l, b :: m, h, h1, h2 => by
    obtain ⟨l1, l2⟩ := List.pairwise_cons.mp h1
    obtain ⟨m1, m2⟩ := List.pairwise_cons.mp h2
    have e : a = b := by
      have ha : a ∈ b :: m := h.mem_iff.mp List.mem_cons_self
      have hb : b ∈ a :: l := h.mem_iff.mpr List.mem_cons_self
      rcases List.mem_cons.mp ha with e | ha
      · exact e
      · rcases List.mem_cons.mp hb with e | hb
        · exact e.symm
        · have x := leP_lex.mp (l1 b hb)
          have y := leP_lex.mp (m1 a ha)
          obtain ⟨a1, a2⟩ := a
          obtain ⟨b1, b2⟩ := b
          simp only at x y
          have z1 : a1 = b1 := by omega
          have z2 : a2 = b2 := by omega
          rw [z1, z2]
    subst e
    rw [sort_uniq (List.perm_cons a |>.mp h) l2 m2]
theorem rpA_of_key {F : Hp} {p : Pi} : ∀ {ys : List V}, (∀ y ∈ ys, Rp F p y (prE (keyF F y))) → RpA F p ys ((ys.map (keyF F)).map prE)
  | [], _ => .nil
  | y :: ys, h => .cons (h y List.mem_cons_self) (rpA_of_key fun z hz => h z (List.mem_cons_of_mem _ hz))
theorem rpA_keys {F : Hp} {p : Pi} : ∀ {xs : List V} {ps : List (Int × Int)}, RpA F p xs (ps.map prE) → xs.map (keyF F) = ps ∧ ∀ x ∈ xs, Rp F p x (prE (keyF F x)) ∧ ∃ t, x = .ref t ∧ F t = some (.tup [.int (keyF F x).1, .int (keyF F x).2])
  | [], [], _ => ⟨rfl, fun x h => by cases h⟩
  | [], q :: qs, r => by cases r
  | x :: xs, [], r => by cases r
  | x :: xs, q :: qs, r => by
    cases r with
    | cons h t =>
      obtain ⟨e1, e2⟩ := rpA_keys t
      obtain ⟨t', k1, k2, k3⟩ := keyF_is h
      refine ⟨by rw [List.map_cons, k3, e1], fun z hz => ?_⟩
      rcases List.mem_cons.mp hz with rfl | hz
      · rw [k3]; exact ⟨h, t', k1, k2⟩
      · exact e2 z hz
theorem do_sortP {p : Pos} (ha : DB m X W ca a fa) (hK : ca.K = X.K := by rfl) (hg : Gl X "sorted" := by rfl) (hm : X.mg "sorted" = none := by assumption) (hs : starEach [a] X.env = (false, eval a X.env) :: starEach [] X.env := by rfl) (hpl : (backTo pos (starEach [] X.env)).any (·.1) = false := by rfl) :
    DO m X W ca (.Call (.Name "sorted" p) [a] [] pos) (oSortP fa) := by
  obtain ⟨t, pa, ka⟩ := ha
  refine ⟨_, pe_callB cr_sortedPO hg hm (by decide +kernel) (pa_cons pa pa_nil hs) (by decide) (by decide) hs hpl, fun H0 g S σ env hS hE Q h => ?_⟩
  refine ka H0 g S σ env hS hE _ (sat_mono (seqO h) (fun x S1 q g1 v e1 s1 r1 => ?_) fun _ _ q => q)
  have q := q g1 e1
  cases x with
  | lst xs =>
    obtain ⟨z, hz, k⟩ := sat_lift q
    cases e3 : prsD xs with
    | none => rw [e3] at hz; cases hz
    | some ps =>
      rw [e3] at hz
      cases hz
      obtain ⟨b, vs, rfl, h1, h2⟩ := r1.lst s1
      rw [prsD_is e3] at h2
      obtain ⟨k1, k2⟩ := rpA_keys h2
      refine ⟨b, vs, keyF g1.F, rfl, by rw [← hK]; exact SqL.of h1, fun x hx => ?_, fun ys p hs hst hp => ?_⟩
      · obtain ⟨_, t', e, ft⟩ := k2 x hx
        exact ⟨t', e, s1.same _ _ ft⟩
      · have pm : (ys.map (keyF g1.F)).Perm ps := by rw [← k1]; exact hst.perm.map _
        have so : (ys.map (keyF g1.F)).Pairwise fun a b => leP a b = true := by
          rw [List.pairwise_map]
          refine hs.imp fun {a b} hab => ?_
          show (!SrtO.lexB _ _) = true
          rw [show SrtO.lexB (keyF g1.F b) (keyF g1.F a) = false from hab]
          rfl
        have e5 := sort_uniq (pm.trans (sortP_perm ps).symm) so (sortP_sorted ps)
        have rr : RpA g1.F g1.p ys ((sortP ps).map prE) := by
          rw [← e5]
          exact rpA_of_key fun y hy => (k2 y (hst.perm.mem_iff.mp hy)).1
        exact k (g1.nw p _) p _ (ext_nw s1 hp _) (sok_nw s1 hp _) hp upd_same (s1.free hp) (s1.nop hp) rr
  | _ => exact q.elim
/-! ### xs.clear(), s.upper() -/
theorem ds_clr {x : Str} {p0 apos cpos : Pos} (i : Nat) (hN : X.N[i]? = some x := by rfl) (hv : Vis X.env.scope x := by first | exact Or.inl rfl | exact Or.inr (Or.inl rfl) | exact Or.inr (Or.inr rfl)) (hd : (x == ("__debug__" : Str)) = false := by decide)
    (hcd : (x == ("__classdict__" : Str)) = false := by decide) (hbase : attributeBase (.Name x p0) "clear" X.env (eval (.Name x p0) X.env) = eval (.Name x p0) X.env := by rfl)
    (hline : (apos.endLine == cpos.line) = true := by rfl) (hsw : swapsWith (.Call (.Attribute (.Name x p0) "clear" apos) [] [] cpos) none pos.line X.env = pure false := by rfl) :
    DS m X W ca (.Expr (.Call (.Attribute (.Name x p0) "clear" apos) [] [] cpos) pos) (sClr i) := by
  refine ⟨_, ps_expr (pe_bm0 PySem.F.plainAttrs_list PySem.F.slot_list_clear PySem.F.type_list_clear mt_clear (pe_var hN hv hd hcd) hbase hline) hsw, fun g0 g S σ env e0 hS hE D h => ?_⟩
  obtain ⟨xs, e, h⟩ := onO_get h
  obtain ⟨q, vs, es, hq, r, hn⟩ := hE.lst e
  refine ⟨_, es, .inl ⟨rfl, vs, SqL.of hq⟩, ?_⟩
  exact ⟨q, vs, rfl, rfl, hq, wr_nx (W := W) e0 hS hE e es hq hn .nil h⟩
def eUp (fa : En → M D) : En → M D := fun env => M.bind (fa env) fun x => match x with
  | .str s => if s.length ≤ lim then M.ret (.str (Txt.upper s)) else M.bad
  | _ => M.bad
theorem de_upper {apos : Pos} (ha : DE m X W ca a fa) (hbase : attributeBase a "upper" X.env (eval a X.env) = eval a X.env := by rfl) (hline : (apos.endLine == pos.line) = true := by rfl) : DE m X W ca (.Call (.Attribute a "upper" apos) [] [] pos) (eUp fa) := by
  obtain ⟨t, pa, ka⟩ := ha
  refine ⟨_, pe_upper pa hbase hline, fun H0 g S σ env hS hE Q h => ?_⟩
  refine ka H0 g S σ env hS hE _ (sat_mono (seqE h) (fun x S1 q g1 v e1 s1 r1 => ?_) fun _ _ q => q)
  have q := q g1 e1
  cases r1 with
  | str s =>
    dsimp only at q
    by_cases c : s.length ≤ lim
    · rw [if_pos c] at q
      exact ⟨⟨s, rfl⟩, s, rfl, rfl, Nat.le_trans c (by decide), (show okE m ca g1 Q (.str (Txt.upper s)) S1 from q) g1 _ (Ext.refl _) s1 (.str _)⟩
    · rw [if_neg c] at q; exact q.elim
  | _ => exact q.elim
end
end Dn

namespace Dn
open PySem L2 PyProof.Rows PySem.Spec
/-! ### lists of the store: clear, remove -/
section
variable {m : Bool} {X : Cx} {W : WX} {ca : Ct} {o e : Expr} {fo fa : En → M D} {pos apos cpos : Pos}
def sRClr (fo : En → M D) : En → M Fl := fun env => liftS (fo env) env fun x => onL x fun n _ => setB n (rL []) (.nx env)
def sRRem (fo fa : En → M D) : En → M Fl := fun env => liftS (fo env) env fun x => onL x fun _ _ => liftS (fa env) env fun d => onL x fun n xs => if shpD d = true ∧ shpD (.lst xs) = true then (match findP (toPy d) (toPyA xs) with
  | some j => setB n (rL (xs.eraseIdx j)) (.nx env)
  | none => M.bad) else M.bad
theorem ds_rclr (ho : DE false X W ca o fo) (hbase : attributeBase o "clear" X.env (eval o X.env) = eval o X.env := by rfl)
    (hline : (apos.endLine == cpos.line) = true := by rfl) (hsw : swapsWith (.Call (.Attribute o "clear" apos) [] [] cpos) none pos.line X.env = pure false := by rfl) :
    DS false X W ca (.Expr (.Call (.Attribute o "clear" apos) [] [] cpos) pos) (sRClr fo) := by
  obtain ⟨to, po, ko⟩ := ho
  refine ⟨_, ps_expr (pe_bm0 PySem.F.plainAttrs_list PySem.F.slot_list_clear PySem.F.type_list_clear mt_clear po hbase hline) hsw, fun g0 g S σ env e0 hS hE D h => ?_⟩
  refine ko g0.H g S σ env hS hE _ (sat_mono (stE e0 hE h) (fun x S1 z g1 u e1 s1 r1 => ?_) fun _ _ q => q)
  obtain ⟨n, ob, xs, rfl, eS, hr, z⟩ := onL_get (z g1 e1)
  obtain ⟨a, vs, rfl, h1, h2, t⟩ := s1.rawL eS hr r1
  obtain ⟨ex, sx⟩ := inplL (ys := []) (e0.trans e1) s1 eS hr h1 h2 .nil
  obtain ⟨ex1, -⟩ := inplL (ys := []) (Ext.refl g1) s1 eS hr h1 h2 .nil
  refine ⟨.inl ⟨rfl, vs, SqL.of h2⟩, _, vs, rfl, rfl, h2, ?_⟩
  exact (show okS false ca W g0 g1 D (.nx env) (S1.set n (rL [])) from z) _ σ ex ex1.mo sx ((hE.ext e1).ext ex1)
theorem ds_rrem (hu : X.A.units + 65 < cLine) (ho : DE false X W ca o fo) (ha : DE false X W ca e fa) (hK : ca.K = X.K := by rfl) (hbase : attributeBase o "remove" X.env (eval o X.env) = eval o X.env := by rfl)
    (hfew : ((backTo cpos (starEach [e] X.env)).all (fun x => !x.1) && (backToKw cpos (keywordEach [] X.env)).all (fun x => x.1.isSome) && decide (([e] : List Expr).length + ([] : List Keyword).length + (if ([] : List Keyword).isEmpty then 0 else 1) < 30)) = true := by rfl)
    (hline : (apos.endLine == cpos.line) = true := by rfl) (hs : starEach [e] X.env = (false, eval e X.env) :: starEach [] X.env := by rfl) (hsw : swapsWith (.Call (.Attribute o "remove" apos) [e] [] cpos) none pos.line X.env = pure false := by rfl) :
    DS false X W ca (.Expr (.Call (.Attribute o "remove" apos) [e] [] cpos) pos) (sRRem fo fa) := by
  obtain ⟨to, po, ko⟩ := ho
  obtain ⟨ta, pa, ka⟩ := ha
  refine ⟨_, ps_expr (pe_bm PySem.F.plainAttrs_list PySem.F.slot_list_remove PySem.F.type_list_remove (mt_removeD hu) po (pa_cons pa pa_nil hs) hbase hfew hline hs) hsw, fun g0 g S σ env e0 hS hE D h => ?_⟩
  refine ko g0.H g S σ env hS hE _ (sat_mono (stE e0 hE h) (fun x S1 z g1 u e1 s1 r1 => ?_) fun _ _ q => q)
  obtain ⟨n, ob, xs, rfl, eS, hr, z⟩ := onL_get (z g1 e1)
  obtain ⟨a, vs, rfl, h1, h2, t⟩ := s1.rawL eS hr r1
  refine ⟨.inl ⟨rfl, vs, SqL.of h2⟩, ?_⟩
  refine ka g0.H g1 S1 σ env s1 (hE.ext e1) _ (sat_mono (stE (e0.trans e1) (hE.ext e1) z) (fun d S2 z g2 v e2 s2 r2 => ?_) fun _ _ q => q)
  have e2' : Ext false g1 g2 := e2
  obtain ⟨n', ob2, xs2, en, eS2, hr2, z⟩ := onL_get (z g2 e2')
  cases en
  obtain ⟨a2, vs2, ea, k1, k2, t2⟩ := s2.rawL eS2 hr2 (e2.rp r1)
  cases ea
  by_cases c : shpD d = true ∧ shpD (.lst xs2) = true
  · rw [if_pos c] at z
    cases f : findP (toPy d) (toPyA xs2) with
    | none => rw [f] at z; exact z.elim
    | some j =>
      rw [f] at z
      dsimp only at z
      have c2 : SeqAt.shaped (.list (toPyA xs2)) = true := c.2
      obtain ⟨hj, hj1, hj2⟩ := List.findIdx?_eq_some_iff_getElem.mp f
      have y1 := dp_of (K := X.K) s2.same r2 (SeqAt.canLay_of_shaped c.1)
      have y2 := dpA_of (K := X.K) s2.same t2 (SeqAt.canLay_of_shaped c2)
      obtain ⟨ex, sx⟩ := inplL ((e0.trans e1).trans e2') s2 eS2 hr2 k1 k2 (RpA.erase j t2)
      obtain ⟨ex1, -⟩ := inplL (Ext.refl g2) s2 eS2 hr2 k1 k2 (RpA.erase j t2)
      exact ⟨a, vs2, v, toPy d, toPyA xs2, j, (toPyA xs2)[j], rfl, rfl, k2, y2, y1, c2, c.1, List.getElem?_eq_getElem hj, hj1, fun m' z' hm hz => by
        obtain ⟨hl, rfl⟩ := List.getElem?_eq_some_iff.mp hz
        simpa using hj2 m' hm, (show okS false ca W g0 g2 D (.nx env) (S2.set n (rL (xs2.eraseIdx j))) from z) _ σ ex ex1.mo sx (((hE.ext e1).ext e2').ext ex1)⟩
  · rw [if_neg c] at z; exact z.elim
end
end Dn

namespace Dn
open PySem L2 PyProof.Rows PySem.Spec
/-! ### products of great numbers; the script's bits -/
section
variable {m : Bool} {X : Cx} {W : WX} {ca : Ct} {a b : Expr} {fa fb : En → M D} {pos : Pos}
def mulXD : D → D → Option D
  | .int i, .int j => if Builtin.Int.intBits i + Builtin.Int.intBits j ≤ 134217728 then some (.int (i * j)) else none
  | _, _ => none
theorem de_mulX (ha : DB m X W ca a fa) (hb : DB m X W ca b fb) : DE m X W ca (.BinOp a .Mult b pos) (eBin mulXD fa fb) := de_bin op_mulX (relI fun x y z h => by
  unfold mulXD at h; split at h
  · split at h
    · rename_i c; cases h; exact ⟨_, _, rfl, rfl, (by unfold CMulX; omega), rfl⟩
    · cases h
  · cases h) ha hb
theorem bits_of {i : Int} {k : Nat} (h : i.natAbs < 2 ^ k) : Builtin.Int.intBits i ≤ k := PyProof.Rows.intBits_le h
theorem bits_back {i : Int} {k : Nat} (h : Builtin.Int.intBits i ≤ k) : i.natAbs < 2 ^ k := by
  by_cases h0 : i = 0
  · subst h0; exact Nat.two_pow_pos k
  · unfold Builtin.Int.intBits at h
    have hb : (i == 0) = false := by simpa using h0
    have hne : i.natAbs ≠ 0 := by omega
    rw [hb] at h
    simp only [Bool.false_eq_true, if_false] at h
    exact (Nat.log2_lt hne).mp h
theorem bits_add {i j : Int} {k : Nat} (h : Builtin.Int.intBits i ≤ k) (hj : Builtin.Int.intBits j ≤ k) : Builtin.Int.intBits (i + j) ≤ k + 1 := by
  have h1 := bits_back h
  have h2 := bits_back hj
  refine bits_of ?_
  rw [Nat.pow_succ]
  omega
theorem bits_mono {i : Int} {j k : Nat} (h : Builtin.Int.intBits i ≤ j) (hk : j ≤ k) : Builtin.Int.intBits i ≤ k := Nat.le_trans h hk
end
/-- what the row wants, the bits told -/
def lawSpB (K : PySem.W.Frag) : Sp := fun vs H Q E => ∃ (a : Addr) (ns : List Int), vs = [.ref a] ∧ ns.length ≤ 63 ∧ (∀ z ∈ ns, Builtin.Int.intBits z ≤ 1048576) ∧ Only H ∧ SqL K H a (ns.map V.int) ∧ ∀ H', Q (.bl true) H'
theorem law_impB {K : PySem.W.Frag} {f : Fn} {ca : Ct} {m : Bool} (hK : ca.K = K) (hlaw : ∀ ns : List Int, ns.length ≤ 63 → (∀ z ∈ ns, Builtin.Int.intBits z ≤ 1048576) → ∃ S', f [.scr ns] [] = .ok (.f (.bl true)) S') : ∀ vs H Q E, lawSpB K vs H Q E → spOf m ca 1 f vs H Q E := fun vs H Q E h => by
  obtain ⟨a, ns, rfl, hl, hb, hO, hS, q⟩ := h
  obtain ⟨S', hl⟩ := hlaw ns hl hb
  refine ⟨rfl, ⟨fun _ => none, H, ⟨fun _ => none, fun b ms => b = a ∧ ms = ns⟩⟩, [], [.scr ns], rfl, ⟨fun _ _ h => (nomatch h), fun _ _ _ h => (nomatch h), fun _ _ _ => rfl, fun _ _ h => (nomatch h), fun n ob h _ => ?_, ?_, fun _ _ h => (nomatch h), fun _ _ _ h => (nomatch h), fun n ob h _ => ?_⟩, .cons (.scr ⟨rfl, rfl⟩) .nil, ?_⟩
  · simp at h
  · rintro b ms ⟨rfl, rfl⟩
    rcases hS with (h | ⟨o, h⟩) | h
    · rcases hO b with z | ⟨o, xs, z⟩
      · rw [h] at z; cases z
      · rw [h] at z; cases z
    · exact .inl ⟨o, h⟩
    · exact .inr fun H' => by rw [hK]; exact .inr h
  · simp at h
  · rw [hl]
    intro g' v _ _ r
    cases r
    exact q _
end Dn

namespace Dn
open PySem L2 PyProof.Rows PySem.Spec
/-! ### a dict of the store that stays while it is walked -/
def rF (kvs : List (Key × D)) : Ob := ⟨"", rawF (.f (.dct kvs))⟩
theorem raw_F (kvs : List (Key × D)) : (rF kvs).raw = some (.f (.dct kvs)) := by simp [Ob.raw, rF, rawF]
def onF {α : Type} (d : D) (k : List (Key × D) → M α) : M α := fun S => match d with
  | .obj n => match S[n]? with
    | some ob => match ob.raw with
      | some (.f (.dct kvs)) => k kvs S
      | _ => .bad
    | none => .bad
  | _ => .bad
theorem onF_S {α : Type} {S : Store} {n : Nat} {kvs : List (Key × D)} (h : S[n]? = some (rF kvs)) (k : List (Key × D) → M α) : onF (.obj n) k S = k kvs S := by unfold onF; simp only [h, raw_F]
theorem onF_obj {α : Type} (n : Nat) (k : List (Key × D) → M α) (S : Store) : onF (.obj n) k S = (match S[n]? with
    | some ob => match ob.raw with
      | some (.f (.dct kvs)) => k kvs S
      | _ => .bad
    | none => .bad) := rfl
theorem onF_get {α : Type} {d : D} {k : List (Key × D) → M α} {S : Store} {P : α → Store → Prop} {E : Str → Store → Prop} (h : (onF d k S).sat P E) : ∃ n ob kvs, d = .obj n ∧ S[n]? = some ob ∧ ob.raw = some (.f (.dct kvs)) ∧ (k kvs S).sat P E := by
  unfold onF at h
  cases d with
  | obj n =>
    dsimp only at h
    cases e : S[n]? with
    | none => rw [e] at h; exact h.elim
    | some ob =>
      rw [e] at h
      dsimp only at h
      cases e2 : ob.raw with
      | none => rw [e2] at h; exact h.elim
      | some w =>
        rw [e2] at h
        cases w with
        | f d =>
          cases d with
          | dct kvs => exact ⟨n, ob, kvs, rfl, e, e2, h⟩
          | _ => exact h.elim
        | _ => exact h.elim
  | _ => exact h.elim
def eLk {α : Type} (fo : En → M D) (fb : En → M α) : En → M α := fun env S => match fo env S with
  | .ok (.obj n) _ => match S[n]? with
    | some ob => match ob.raw with
      | some (.k kvs) => match fb env (S.set n (rF kvs)) with
        | .ok d S2 => match S2[n]? with
          | some ob2 => match ob2.raw with
            | some (.f (.dct kvs2)) => .ok d (S2.set n (rK kvs2))
            | _ => .bad
          | none => .bad
        | _ => .bad
      | _ => .bad
    | none => .bad
  | _ => .bad
theorem eLk_S {α : Type} {fo : En → M D} {fb : En → M α} {env : En} {S S1 S2 : Store} {n : Nat} {kvs : List (Key × D)} {d : α} (h1 : fo env S = .ok (.obj n) S1) (h2 : S[n]? = some (rK kvs)) (h3 : fb env (S.set n (rF kvs)) = .ok d S2) {kvs2 : List (Key × D)} (h4 : S2[n]? = some (rF kvs2)) : eLk fo fb env S = .ok d (S2.set n (rK kvs2)) := by
  unfold eLk
  simp only [h1, h2, raw_K, h3, h4, raw_F]
section
variable {m : Bool} {X : Cx} {W : WX} {ca : Ct} {a b e o : Expr} {fa fb fo : En → M D} {pos : Pos} {g : G} {S : Store}
theorem SOk.rawF' (hS : SOk ca g S) {n : Nat} {ob : Ob} {xs : List (Key × D)} (e : S[n]? = some ob) (hr : ob.raw = some (.f (.dct xs))) : ∃ a vs o, g.p (.ob n) = some a ∧ g.H a = some (.frz o (.dK vs)) ∧ RpK g.F g.p vs xs := by
  have he := Ob.raw_get hr
  subst he
  obtain ⟨a, h1, h2⟩ := hS.raw n _ e rfl
  rcases h2 with ⟨vs, ys, h3, _⟩ | ⟨vs, ys, h3, _⟩ | ⟨vs, ys, o, h3, h4, h5⟩
  · cases rawF_inj h3
  · cases rawF_inj h3
  · cases rawF_inj h3; exact ⟨a, vs, o, h1, h4, h5⟩
theorem SOk.rawK' (hS : SOk ca g S) {n : Nat} {ob : Ob} {xs : List (Key × D)} (e : S[n]? = some ob) (hr : ob.raw = some (.k xs)) : ∃ a vs, g.p (.ob n) = some a ∧ g.H a = some (.dK vs) ∧ RpK g.F g.p vs xs := by
  have he := Ob.raw_get hr
  subst he
  obtain ⟨a, h1, h2⟩ := hS.raw n _ e rfl
  rcases h2 with ⟨vs, ys, h3, _⟩ | ⟨vs, ys, h3, h4, h5⟩ | ⟨vs, ys, o, h3, _⟩
  · cases rawF_inj h3
  · cases rawF_inj h3; exact ⟨a, vs, h1, h4, h5⟩
  · cases rawF_inj h3
/-- what a lock gives, what its end gives -/
theorem lk_in (hS : SOk ca g S) {n : Nat} {ob : Ob} {kvs : List (Key × D)} (e1 : S[n]? = some ob) (e2 : ob.raw = some (.k kvs)) : ∃ a vs, g.p (.ob n) = some a ∧ g.H a = some (.dK vs) ∧ ∀ od, SOk ca ⟨g.F, upd g.H a (.frz od (.dK vs)), g.p⟩ (S.set n (rF kvs)) ∧ Ext false g ⟨g.F, upd g.H a (.frz od (.dK vs)), g.p⟩ := by
  obtain ⟨a, vs, h1, h2, h3⟩ := hS.rawK' e1 e2
  refine ⟨a, vs, h1, h2, fun od => ⟨?_, raw_exP (Ext.refl g) h1 ⟨_, h2⟩ (fun x y q => by rw [h2] at q; cases q)⟩⟩
  exact raw_putW hS e1 (by rw [Ob.raw_get e2]) h1 (fun x y q => by rw [h2] at q; cases q) (.inr (.inr ⟨vs, kvs, od, rfl, upd_same, h3⟩))
theorem lk_out {n : Nat} {a : Addr} {vs : List (Key × V)} {od : Obj} (ea : g.p (.ob n) = some a) (eH : g.H a = some (.dK vs)) {g2 : G} {S2 : Store} (ex : Ext m ⟨g.F, upd g.H a (.frz od (.dK vs)), g.p⟩ g2) (s2 : SOk ca g2 S2) {ob2 : Ob} {kvs2 : List (Key × D)} (e3 : S2[n]? = some ob2) (e4 : ob2.raw = some (.f (.dct kvs2))) :
    g2.H a = some (.frz od (.dK vs)) ∧ SOk ca ⟨g2.F, upd g2.H a (.dK vs), g2.p⟩ (S2.set n (rK kvs2)) ∧ Ext m g ⟨g2.F, upd g2.H a (.dK vs), g2.p⟩ := by
  have hH2 : g2.H a = some (.frz od (.dK vs)) := ex.frz a od _ upd_same
  have ea2 : g2.p (.ob n) = some a := ex.obs.1 _ _ ea
  obtain ⟨a', vs', o', h1, h2, h3⟩ := s2.rawF' e3 e4
  rw [ea2] at h1
  cases h1
  rw [hH2] at h2
  cases h2
  refine ⟨hH2, raw_putW s2 e3 (by rw [Ob.raw_get e4]) ea2 (fun x y q => by rw [hH2] at q; cases q) (.inr (.inl ⟨vs, kvs2, rfl, upd_same, h3⟩)), ⟨ex.same, fun b u h1 h2 h3 => ?_, ex.obs, fun b hb => ?_, fun hm => ?_, fun b x y hb => ?_⟩⟩
  · have ne : b ≠ a := fun c => by subst c; exact h3 _ ea
    obtain ⟨k1, k2, k3⟩ := ex.stay b u (by show upd g.H a _ b = _; rw [upd_ne ne]; exact h1) h2 h3
    exact ⟨by show upd g2.H a _ b = _; rw [upd_ne ne]; exact k1, k2, k3⟩
  · have hb : upd g2.H a (.dK vs) b = none := hb
    by_cases c : b = a
    · subst c; rw [upd_same] at hb; cases hb
    · rw [upd_ne c] at hb
      have := ex.dom b hb
      have : upd g.H a (.frz od (.dK vs)) b = none := this
      rw [upd_ne c] at this
      exact this
  · obtain ⟨p1, p2⟩ := ex.pure hm
    refine ⟨p1, fun l b u hl hb => ?_⟩
    show upd g2.H a (.dK vs) b = _
    by_cases c : b = a
    · subst c; rw [upd_same, ← eH]; exact hb
    · rw [upd_ne c]
      exact p2 l b u hl (by show upd g.H a _ b = _; rw [upd_ne c]; exact hb)
  · have ne : b ≠ a := fun c => by subst c; rw [eH] at hb; cases hb
    show upd g2.H a _ b = _
    rw [upd_ne ne]
    exact ex.frz b x y (by show upd g.H a _ b = _; rw [upd_ne ne]; exact hb)
theorem lk_cases {α : Type} {fb : En → M α} {env : En} {P : α → Store → Prop} {E : Str → Store → Prop} (h : (eLk fo fb env S).sat P E) : ∃ n ob kvs d S2 ob2 kvs2, S[n]? = some ob ∧ ob.raw = some (.k kvs) ∧ fb env (S.set n (rF kvs)) = .ok d S2 ∧ S2[n]? = some ob2 ∧ ob2.raw = some (.f (.dct kvs2)) ∧ P d (S2.set n (rK kvs2)) := by
  unfold eLk at h
  cases h0 : fo env S with
  | ok d0 S0 =>
    rw [h0] at h
    cases d0 with
    | obj n =>
      dsimp only at h
      cases h1 : S[n]? with
      | none => rw [h1] at h; exact h.elim
      | some ob =>
        rw [h1] at h
        dsimp only at h
        cases h2 : ob.raw with
        | none => rw [h2] at h; exact h.elim
        | some w =>
          rw [h2] at h
          cases w with
          | k kvs =>
            dsimp only at h
            cases h3 : fb env (S.set n (rF kvs)) with
            | ok d S2 =>
              rw [h3] at h
              dsimp only at h
              cases h4 : S2[n]? with
              | none => rw [h4] at h; exact h.elim
              | some ob2 =>
                rw [h4] at h
                dsimp only at h
                cases h5 : ob2.raw with
                | none => rw [h5] at h; exact h.elim
                | some w2 =>
                  rw [h5] at h
                  cases w2 with
                  | f d2 =>
                    cases d2 with
                    | dct kvs2 => exact ⟨n, ob, kvs, d, S2, ob2, kvs2, h1, h2, h3, h4, h5, h⟩
                    | _ => exact h.elim
                  | _ => exact h.elim
            | exc c S2 => rw [h3] at h; exact h.elim
            | bad => rw [h3] at h; exact h.elim
          | _ => exact h.elim
    | _ => exact h.elim
  | exc c S2 => rw [h0] at h; exact h.elim
  | bad => rw [h0] at h; exact h.elim
theorem de_lock (fo : En → M D) (hb : DE m X W ca e fb) : DE m X W ca e (eLk fo fb) := by
  obtain ⟨t, p, k⟩ := hb
  refine ⟨_, pe_lock p, fun H0 g S σ env hS hE Q h => ?_⟩
  obtain ⟨n, ob, kvs, d, S2, ob2, kvs2, h1, h2, h3, h4, h5, h⟩ := lk_cases h
  obtain ⟨a, vs, ea, eH, k2⟩ := lk_in hS h1 h2
  refine ⟨a, _, eH, trivial, fun od => ?_⟩
  obtain ⟨s1, x1⟩ := k2 od
  refine k H0 _ _ σ env s1 (hE.ext x1) _ ?_
  rw [h3]
  intro g2 v e2 s2 r2
  obtain ⟨z1, z2, z3⟩ := lk_out (m := m) ea eH e2 s2 h4 h5
  exact ⟨z1, (show okE m ca g Q d (S2.set n (rK kvs2)) from h) _ v z3 z2 r2⟩
theorem do_lock {fb : En → M (List D)} (fo : En → M D) (hb : DO m X W ca e fb) : DO m X W ca e (eLk fo fb) := by
  obtain ⟨t, p, k⟩ := hb
  refine ⟨_, pe_lock p, fun H0 g S σ env hS hE Q h => ?_⟩
  obtain ⟨n, ob, kvs, d, S2, ob2, kvs2, h1, h2, h3, h4, h5, h⟩ := lk_cases h
  obtain ⟨a, vs, ea, eH, k2⟩ := lk_in hS h1 h2
  refine ⟨a, _, eH, trivial, fun od => ?_⟩
  obtain ⟨s1, x1⟩ := k2 od
  refine k H0 _ _ σ env s1 (hE.ext x1) _ ?_
  rw [h3]
  intro g2 q ws e2 s2 n0 q1 q2 q3 r2
  obtain ⟨z1, z2, z3⟩ := lk_out (m := m) ea eH e2 s2 h4 h5
  have n0 : upd g.H a (.frz od (.dK vs)) q = none := n0
  have ne : q ≠ a := fun c => by subst c; rw [upd_same] at n0; cases n0
  rw [upd_ne ne] at n0
  exact ⟨z1, (show okO m ca g Q d (S2.set n (rK kvs2)) from h) _ q ws z3 z2 n0 (by show upd g2.H a _ q = _; rw [upd_ne ne]; exact q1) q2 q3 r2⟩
/-- the keys of a dict that stays -/
def keyV : Key → D
  | .inl i => .int i
  | .inr s => .str s
def iKy (fo : En → M D) : En → M (List D) := fun env => M.bind (fo env) fun x => onF x fun kvs => M.ret (kvs.map fun kv => keyV kv.1)
theorem keys_get : ∀ {F : Hp} {p : Pi} {vs : List (Key × V)} {xs : List (Key × D)}, RpK F p vs xs → vs.length = xs.length ∧ ∀ (i : Nat) (kv : Key × D), xs[i]? = some kv → ∃ v, vs[i]? = some (kv.1, v)
  | _, _, _, _, .nil => ⟨rfl, fun i kv h => by simp at h⟩
  | _, _, _, _, .cons h t => by
    obtain ⟨e1, e2⟩ := keys_get t
    refine ⟨by simp [e1], fun i kv hi => ?_⟩
    cases i with
    | zero => simp at hi; rw [← hi]; exact ⟨_, rfl⟩
    | succ i => exact e2 i kv (by simpa using hi)
theorem itk_ok {q m : Bool} {n : Nat} {a : Addr} {od : Obj} {vs : List (Key × V)} {xs : List (Key × D)} (ea : g.p (.ob n) = some a) (eH : g.H a = some (.frz od (.dK vs))) (r : RpK g.F g.p vs xs) : ItOk q m ca g (Itk a od vs) (xs.map fun kv => keyV kv.1) := fun g' S e hS i => by
  have h' : g'.H a = some (.frz od (.dK vs)) := e.mo.frz a od _ eH
  obtain ⟨l1, l2⟩ := keys_get r
  refine ⟨fun d hd => ?_, fun hl => ⟨h', by rw [l1]; simpa using hl⟩⟩
  rw [List.getElem?_map] at hd
  cases e2 : xs[i]? with
  | none => rw [e2] at hd; cases hd
  | some kv =>
    rw [e2] at hd
    cases hd
    obtain ⟨v, hv⟩ := l2 i kv e2
    refine ⟨⟨h', (List.getElem?_eq_some_iff.mp hv).1⟩, fun x H' y => ?_⟩
    obtain ⟨y1, k, v', y2, y3⟩ := y
    rw [hv] at y2
    cases y2
    refine ⟨y1, ?_⟩
    rw [y3]
    obtain ⟨k1, d1⟩ := kv
    cases k1 with
    | inl i => exact .int i
    | inr s => exact .str s
theorem di_keysF {q : Bool} (ha : DE m X W ca e fo) : DI q m X W ca e (iKy fo) := by
  obtain ⟨t, p, k⟩ := ha
  refine ⟨_, fun tg => pi_keys p, fun H0 g S σ env hS hE R h => ?_⟩
  refine k H0 g S σ env hS hE _ (sat_mono (seqI (P := itP q m ca R) itP.mono h) (fun x S1 z g1 v e1 s1 r1 => ?_) fun _ _ q => q)
  obtain ⟨n, ob, kvs, rfl, h1, h2, z⟩ := onF_get (z g1 e1)
  obtain ⟨a, vs, o, k1, k2, k3⟩ := s1.rawF' h1 h2
  cases r1 with
  | obj hp =>
    rw [k1] at hp
    cases hp
    exact ⟨_, o, rfl, .inl ⟨vs, k2, (show itP q m ca R g1 (kvs.map fun kv => keyV kv.1) S1 from z) g1 _ (Ext.refl _) s1 (itk_ok k1 k2 k3)⟩⟩
/-- an item of a dict that stays -/
def eIxF (fo fi : En → M D) : En → M D := fun env => M.bind (fo env) fun x => M.bind (fi env) fun y => onF x fun kvs => M.lift ((keyD y).bind (getK kvs))
theorem de_ixF (hu : X.A.units + 64 < cLine) (ha : DE m X W ca a fa) (hb : DE m X W ca b fb) (hs : NoSl b := by intro _ _; rfl) : DE m X W ca (.Subscript a b pos) (eIxF fa fb) := by
  obtain ⟨ta, pa, ka⟩ := ha
  obtain ⟨tb, pb, kb⟩ := hb
  refine ⟨_, pe_dget (Nat.lt_of_le_of_lt (Nat.add_le_add_left (by decide : 1 ≤ 64) _) hu) pa pb hs, fun H0 g S σ env hS hE Q h => ?_⟩
  refine ka H0 g S σ env hS hE _ (sat_mono (seqE h) (fun x S1 z g1 v e1 s1 r1 => ?_) fun _ _ q => q)
  refine kb H0 g1 S1 σ env s1 (hE.ext e1) _ (sat_mono (seqE (z g1 e1)) (fun y S2 z2 g2 w e2 s2 r2 => ?_) fun _ _ q => q)
  obtain ⟨n, ob, kvs, rfl, h1, h2, z3⟩ := onF_get (z2 g2 e2)
  obtain ⟨c, vs, od, k1, k2, k3⟩ := s2.rawF' h1 h2
  have r1 := e2.rp r1
  cases r1 with
  | obj hp =>
    rw [k1] at hp
    cases hp
    obtain ⟨d, hd, z3⟩ := sat_lift z3
    cases e1 : keyD y with
    | none => rw [e1] at hd; cases hd
    | some q =>
      rw [e1] at hd
      have hd : getK kvs q = some d := hd
      rcases getK_v k3 q with ⟨g1', _⟩ | ⟨d', v', g1', g2', g3'⟩
      · rw [g1'] at hd; cases hd
      · rw [g1'] at hd; cases hd
        refine ⟨_, v', rfl, .inl ⟨vs, q, .inr ⟨od, k2⟩, keyD_v (Rp.mono s2.same (PiLe.refl _) r2) e1, g2'.symm⟩, (show okE m ca g2 Q _ S2 from z3) g2 v' (Ext.refl _) s2 g3'⟩
def rEqDL : R2 := fun x y H Q => ∃ a b ks ls, x = .ref a ∧ y = .ref b ∧ H a = some (.dK ks) ∧ H b = some (.dK ls) ∧ ks.length ≠ ls.length ∧ Q (.bl false) H
theorem op_eq_dictL (hu : X.A.units < cLine) : OpR X (compareOp .Eq) rEqDL := by
  intro pins s σ H x y v u Q I rx ry h
  obtain ⟨a, b, ks, ls, rfl, rfl, ea, eb, hlen, q⟩ := h
  obtain rfl : v = Value.ref a := rx
  obtain rfl : u = Value.ref b := ry
  obtain ⟨_, ya, va, ra, da⟩ := (show ObjOk X.prog X.w H s.heap a (.dK ks) from I.hok a _ ea)
  obtain ⟨_, yb, vb, rb, db⟩ := (show ObjOk X.prog X.w H s.heap b (.dK ls) from I.hok b _ eb)
  have hl : va.length ≠ vb.length := by rw [← ra.length, ← rb.length]; exact hlen
  exact PySem.W.keq_eq (knd := mixKind X.prog X.w) (r := true) ya yb da db hu (fun z => absurd z hl) (fin_bl I q (by simp [hl]))
/-- is a dict of the store empty? -/
def tEqE (fa : En → M D) : En → M Bool := fun env => M.bind (fa env) fun x => onK x fun _ kvs => M.ret kvs.isEmpty
theorem dt_eqE {p2 : Pos} (hu : X.A.units + 64 < cLine) (ha : DE m X W ca a fa) : DT m X W ca (.Compare a [.Eq] [.Dict [] [] p2] pos) (tEqE fa) := by
  obtain ⟨ta, pa, ka⟩ := ha
  obtain ⟨tb, pb, kb⟩ := (dk_nil : DK m X W ca (.Dict [] [] p2) kNil)
  have hu' : X.A.units < cLine := Nat.lt_of_le_of_lt (Nat.le_add_right _ _) hu
  refine ⟨_, pt_cmpR ((op_eq_dict hu').or (op_eq_dictL hu')) pa pb (nomark _), fun H0 g S σ env hS hE Q h => ?_⟩
  refine ka H0 g S σ env hS hE _ (sat_mono (seqT h) (fun x S1 z g1 v e1 s1 r1 => ?_) fun _ _ q => q)
  obtain ⟨n, ob, kvs, rfl, h1, h2, z⟩ := onK_get (z g1 e1)
  refine kb H0 g1 S1 σ env s1 (hE.ext e1) _ ?_
  intro g2 q vs e2 s2 n0 q1 q2 q3 r2
  cases r2
  obtain ⟨A, ws, rfl, k1, k2, k3⟩ := s2.rawK h1 h2 (e2.rp r1)
  have z : okT m ca g1 Q kvs.isEmpty S1 := z
  cases k3 with
  | nil => exact .inl ⟨A, q, [], rfl, rfl, k2, q1, List.nodup_nil, (fun p hp => by cases hp), true, rfl, z g2 e2 s2⟩
  | cons hh tt => exact .inr ⟨A, q, _, [], rfl, rfl, k2, q1, (by simp), false, rfl, z g2 e2 s2⟩
theorem EnvOk.h0 {H0 H1 : Hp} {σ : L2.St} {env : En} (h : EnvOk H0 g σ env) (k : ∀ q o, g.H q = some o → H0 q = none → H1 q = none) : EnvOk H1 g σ env := by
  refine ⟨h.len, fun i v w h1 h2 => ?_, h.apart⟩
  have r := h.at_ i v w h1 h2
  cases w with
  | o xs =>
    obtain ⟨q, vs, r1, r2, r3, r4⟩ := r
    exact ⟨q, vs, r1, r2, r3, ⟨r4.out, r4.nop, k q _ r2 r4.new⟩⟩
  | k xs =>
    obtain ⟨q, vs, r1, r2, r3, r4⟩ := r
    exact ⟨q, vs, r1, r2, r3, ⟨r4.out, r4.nop, k q _ r2 r4.new⟩⟩
  | _ => exact r
/-- a statement over a dict that stays -/
def sLk (fo : En → M D) (fs : En → M Fl) : En → M Fl := eLk fo fun env => M.bind (fs env) fun fl => match fl with
  | .nx e => M.ret (.nx e)
  | .rt d => M.ret (.rt d)
  | _ => M.bad
theorem EnvOk.off {H0 : Hp} {σ : L2.St} {env : En} (h : EnvOk H0 g σ env) {l : Loc} {a : Addr} (ea : g.p l = some a) (u : HO) : EnvOk H0 ⟨g.F, upd g.H a u, g.p⟩ σ env := by
  refine ⟨h.len, fun i v w h1 h2 => ?_, h.apart⟩
  have r := h.at_ i v w h1 h2
  cases w with
  | o xs =>
    obtain ⟨q, vs, r1, r2, r3, r4⟩ := r
    exact ⟨q, vs, r1, by show upd g.H a u q = _; rw [upd_ne (fun c => by subst c; exact r4.nop _ ea)]; exact r2, r3, ⟨r4.out, r4.nop, r4.new⟩⟩
  | k xs =>
    obtain ⟨q, vs, r1, r2, r3, r4⟩ := r
    exact ⟨q, vs, r1, by show upd g.H a u q = _; rw [upd_ne (fun c => by subst c; exact r4.nop _ ea)]; exact r2, r3, ⟨r4.out, r4.nop, r4.new⟩⟩
  | _ => exact r
theorem ds_lock {st : Stmt} {fs : En → M Fl} (fo : En → M D) (hb : DS m X W ca st fs) : DS m X W ca st (sLk fo fs) := by
  obtain ⟨t, p, k⟩ := hb
  refine ⟨_, ps_lock p, fun g0 g S σ env e0 hS hE D h => ?_⟩
  obtain ⟨n, ob, kvs, fl, S2, ob2, kvs2, h1, h2, h3, h4, h5, h⟩ := lk_cases h
  obtain ⟨a, vs, ea, eH, k2⟩ := lk_in hS h1 h2
  refine ⟨a, _, eH, trivial, fun od => ?_⟩
  obtain ⟨s1, x1⟩ := k2 od
  obtain ⟨g1, hg1⟩ : ∃ g1 : G, g1 = ⟨g.F, upd g.H a (.frz od (.dK vs)), g.p⟩ := ⟨_, rfl⟩
  rw [← hg1] at s1 x1
  have dom1 : ∀ b, g1.H b = none → g.H b = none := fun b hb => by
    rw [hg1] at hb
    have hb : upd g.H a (.frz od (.dK vs)) b = none := hb
    by_cases c : b = a
    · subst c; rw [upd_same] at hb; cases hb
    · rw [upd_ne c] at hb; exact hb
  obtain ⟨gz, hgz⟩ : ∃ gz : G, gz = ⟨g1.F, fun b => if g0.H b = none then none else g1.H b, g1.p⟩ := ⟨_, rfl⟩
  have ez : Ext m gz g1 := by
    rw [hgz]
    have up : ∀ b o, (if g0.H b = none then none else g1.H b) = some o → g1.H b = some o := fun b o hb => by
      split at hb
      · cases hb
      · exact hb
    refine ⟨Same.refl _, fun b o hb hF hp => ⟨up b o hb, hF, hp⟩, PiLe.refl _, fun b hb => ?_, fun _ => ⟨rfl, fun l b o hl hb => up b o hb⟩, fun b x y hb => up b _ hb⟩
    show (if g0.H b = none then none else g1.H b) = none
    rw [hb]; split <;> rfl
  have back : ∀ q, gz.H q = none → g0.H q = none := fun q hq => by
    rw [hgz] at hq
    have hq : (if g0.H q = none then none else g1.H q) = none := hq
    by_cases c : g0.H q = none
    · exact c
    · rw [if_neg c] at hq
      exact e0.dom q (dom1 q hq)
  have hEz : EnvOk gz.H g1 σ env := (hE.ext x1).h0 fun q o hq h0 => by
    rw [hgz]
    show (if g0.H q = none then none else g1.H q) = none
    rw [if_pos h0]
  have kk := k gz g1 _ σ env ez s1 hEz
  rw [hg1] at kk
  refine kk _ ?_
  rw [← hg1]
  unfold M.bind at h3
  have fin : ∀ (g2 : G), Ext m gz g2 → Mo m g1 g2 → SOk ca g2 S2 → g2.H a = some (.frz od (.dK vs)) ∧ g2.p (.ob n) = some a ∧ SOk ca ⟨g2.F, upd g2.H a (.dK vs), g2.p⟩ (S2.set n (rK kvs2)) ∧ Mo m g ⟨g2.F, upd g2.H a (.dK vs), g2.p⟩ ∧ Ext m g0 ⟨g2.F, upd g2.H a (.dK vs), g2.p⟩ := fun g2 ex mo s2 => by
    have hH2 : g2.H a = some (.frz od (.dK vs)) := mo.frz a od _ (by rw [hg1]; exact upd_same)
    have gzF : gz.F = g.F := by rw [hgz, hg1]
    have gzp : gz.p = g.p := by rw [hgz, hg1]
    have sF : Same g.F g2.F := by have := ex.same; rw [gzF] at this; exact this
    have sp : PiLe g.p g2.p := by have := ex.obs; rw [gzp] at this; exact this
    have ea2 : g2.p (.ob n) = some a := sp.1 _ _ ea
    have ne1 : ∀ b o, b ≠ a → g.H b = some o → g1.H b = some o := fun b o hb h => by rw [hg1]; show upd g.H a _ b = _; rw [upd_ne hb]; exact h
    obtain ⟨a', vs', o', q1, q2, q3⟩ := s2.rawF' h4 h5
    rw [ea2] at q1
    cases q1
    rw [hH2] at q2
    cases q2
    have none3 : ∀ b, upd g2.H a (.dK vs) b = none → b ≠ a ∧ g2.H b = none := fun b hb => by
      by_cases c : b = a
      · subst c; rw [upd_same] at hb; cases hb
      · rw [upd_ne c] at hb; exact ⟨c, hb⟩
    have gzH : ∀ b o, g0.H b ≠ none → g1.H b = some o → gz.H b = some o := fun b o h0 h => by rw [hgz]; show (if g0.H b = none then none else g1.H b) = _; rw [if_neg h0]; exact h
    have nfz : ∀ b x y, g.H b = some (.frz x y) → b ≠ a := fun b x y hb c => by subst c; rw [eH] at hb; cases hb
    refine ⟨hH2, ea2, raw_putW s2 h4 (by rw [Ob.raw_get h5]) ea2 (fun x y q => by rw [hH2] at q; cases q) (.inr (.inl ⟨vs, kvs2, rfl, upd_same, q3⟩)), ⟨sF, sp, fun b hb => ?_, fun hm => ⟨?_, fun l b u hl hb => ?_⟩, fun b x y hb => ?_⟩, ⟨e0.same.trans sF, fun b u b1 b2 b3 => ?_, e0.obs.trans sp, fun b hb => ?_, fun hm => ?_, fun b x y hb => ?_⟩⟩
    · obtain ⟨c1, c2⟩ := none3 b hb
      exact dom1 b (mo.dom b c2)
    · rw [(mo.pure hm).1, hg1]
    · show upd g2.H a (.dK vs) b = _
      by_cases c : b = a
      · subst c; rw [upd_same, ← eH]; exact hb
      · rw [upd_ne c]
        exact (mo.pure hm).2 l b u (by rw [hg1]; exact hl) (ne1 b u c hb)
    · show upd g2.H a (.dK vs) b = _
      rw [upd_ne (nfz b x y hb)]
      exact mo.frz b x y (ne1 b _ (nfz b x y hb) hb)
    · obtain ⟨k1, k2, k3⟩ := e0.stay b u b1 b2 b3
      have ne : b ≠ a := fun c => by subst c; exact k3 _ ea
      obtain ⟨w1, w2, w3⟩ := ex.stay b u (gzH b u (by rw [b1]; simp) (ne1 b u ne k1)) (by rw [gzF]; exact k2) (by rw [gzp]; exact k3)
      exact ⟨by show upd g2.H a _ b = _; rw [upd_ne ne]; exact w1, w2, w3⟩
    · obtain ⟨c1, c2⟩ := none3 b hb
      exact back b (ex.dom b c2)
    · obtain ⟨r1, r2⟩ := e0.pure hm
      refine ⟨by show g2.p = g0.p; rw [(mo.pure hm).1, hg1]; exact r1, fun l b u hl hb => ?_⟩
      have gb := r2 l b u hl hb
      show upd g2.H a (.dK vs) b = _
      by_cases c : b = a
      · subst c; rw [upd_same, ← eH]; exact gb
      · rw [upd_ne c]
        exact (ex.pure hm).2 l b u (by rw [gzp, r1]; exact hl) (gzH b u (by rw [hb]; simp) (ne1 b u c gb))
    · have gb := e0.frz b x y hb
      show upd g2.H a (.dK vs) b = _
      rw [upd_ne (nfz b x y gb)]
      exact mo.frz b x y (ne1 b _ (nfz b x y gb) gb)
  cases e6 : fs env (S.set n (rF kvs)) with
  | bad => rw [e6] at h3; cases h3
  | exc c S3 => rw [e6] at h3; cases h3
  | ok f0 S3 =>
    rw [e6] at h3
    cases f0 with
    | nx env' =>
      cases h3
      intro g2 σ' x1 x2 s2 hE2
      obtain ⟨z1, za, z2, z3, z4⟩ := fin g2 x1 x2 s2
      refine ⟨z1, (show okS m ca W g0 g D (.nx env') (S2.set n (rK kvs2)) from h) _ σ' z4 z3 z2 ?_⟩
      exact (hE2.off za (.dK vs)).h0 fun q o _ hq => back q hq
    | rt d =>
      cases h3
      intro g2 v x1 x2 s2 r2
      obtain ⟨z1, za, z2, z3, z4⟩ := fin g2 x1 x2 s2
      exact ⟨z1, (show okS m ca W g0 g D (.rt d) (S2.set n (rK kvs2)) from h) _ v z4 z3 z2 r2⟩
    | _ => cases h3
end
end Dn

namespace Dn
open PySem L2 PyProof.Rows PySem.Spec
/-! ### a def that calls itself: nothing is promised where the fuel is out -/
theorem fn_bad {P : Program} {w : World} {K : PySem.W.Frag} {mg : Str → Option Value} {base : Heap} {k : Nat} {fa : Addr} {fd : FuncData} {ps : List Str} {m : Bool} {ca : Ct} : FnD P w K mg base k fa fd ps m ca (fun _ => M.bad) :=
  ⟨fun vs H Q E q => q.1, fun A outer s H args us vs Q E hr he hb hv hs => by
    obtain ⟨_, _, _, _, _, _, _, z⟩ := hs
    exact z.elim⟩
section
variable {m : Bool} {X : Cx} {W : WX} {ca : Ct} {a b e o : Expr} {fa fb fo : En → M D} {pos : Pos} {g : G} {S : Store}
/-- dict(d): a new dict with the same -/
def kCpy (fa : En → M D) : En → M (List (Key × D)) := fun env => M.bind (fa env) fun x => match x with
  | .dct kvs => M.ret kvs
  | _ => M.bad
theorem seqK' {α : Type} {c : M α} {k : α → M (List (Key × D))} {S : Store} {g : G} {σ : L2.St} {Q : VK} (h : (M.bind c k S).sat (okK m ca g Q) (exE m ca W g σ)) :
    (c S).sat (fun a S' => ∀ g', Ext m g g' → (k a S').sat (okK m ca g' Q) (exE m ca W g' σ)) (exE m ca W g σ) :=
  sat_mono (sat_bind h) (fun a S' h g' e => sat_mono h (fun d S2 q g2 l vs e2 s n h1 h2 h3 r => q g2 l vs (e.trans e2) s (e.dom _ n) h1 h2 h3 r) fun c S2 q => q.mono e) fun _ _ q => q
theorem dk_dictF {p : Pos} (ha : DB m X W ca a fa) (hg : Gl X "dict" := by rfl) (hm : X.mg "dict" = none := by assumption) (hs : starEach [a] X.env = (false, eval a X.env) :: starEach [] X.env := by rfl) : DK m X W ca (.Call (.Name "dict" p) [a] [] pos) (kCpy fa) := by
  obtain ⟨t, pa, k⟩ := ha
  refine ⟨_, pe_callTy call_dictD hg hm (by decide +kernel) (pa_cons pa pa_nil hs) (he := hs), fun H0 g S σ env hS hE Q h => ?_⟩
  refine k H0 g S σ env hS hE _ (sat_mono (seqK' h) (fun x S1 q g1 v e1 s1 r1 => ?_) fun _ _ q => q)
  have q := q g1 e1
  cases x with
  | dct xs =>
    obtain ⟨l, vs, rfl, h1, h2⟩ := r1.dct s1
    exact ⟨l, vs, rfl, .inl h1, fun z hz => (show okK m ca g1 Q xs S1 from q) (g1.nw z _) z _ (ext_nw s1 hz _) (sok_nw s1 hz _) hz upd_same (s1.free hz) (s1.nop hz) h2⟩
  | _ => exact q.elim
/-- list(d): a dict's keys -/
def oKeysF (fa : En → M D) : En → M (List D) := fun env => M.bind (fa env) fun x => match x with
  | .dct kvs => M.ret (kvs.map fun kv => keyV kv.1)
  | _ => M.bad
theorem rpA_kys : ∀ {F : Hp} {p : Pi} {vs : List (Key × V)} {xs : List (Key × D)}, RpK F p vs xs → RpA F p (vs.map fun kv => kV kv.1) (xs.map fun kv => keyV kv.1)
  | _, _, _, _, .nil => .nil
  | _, _, _, _, .cons (k := k) h t => by
    refine .cons ?_ (rpA_kys t)
    cases k with
    | inl i => exact .int i
    | inr s => exact .str s
theorem do_keysF {p : Pos} (ha : DB m X W ca a fa) (hc : X.calm = true := by rfl) (hg : Gl X "list" := by rfl) (hm : X.mg "list" = none := by assumption) (hs : starEach [a] X.env = (false, eval a X.env) :: starEach [] X.env := by rfl) : DO m X W ca (.Call (.Name "list" p) [a] [] pos) (oKeysF fa) := by
  obtain ⟨t, pa, k⟩ := ha
  refine ⟨_, pe_callTy (call_listD hc) hg hm (by decide +kernel) (pa_cons pa pa_nil hs) (he := hs), fun H0 g S σ env hS hE Q h => ?_⟩
  refine k H0 g S σ env hS hE _ (sat_mono (seqO h) (fun x S1 q g1 v e1 s1 r1 => ?_) fun _ _ q => q)
  have q := q g1 e1
  cases x with
  | dct xs =>
    obtain ⟨l, vs, rfl, h1, h2⟩ := r1.dct s1
    exact ⟨l, vs, rfl, .inl h1, fun z hz => (show okO m ca g1 Q (xs.map fun kv => keyV kv.1) S1 from q) (g1.nw z _) z _ (ext_nw s1 hz _) (sok_nw s1 hz _) hz upd_same (s1.free hz) (s1.nop hz) (rpA_kys h2)⟩
  | _ => exact q.elim
/-- dict(d), d in the store -/
def kCpyK (fa : En → M D) : En → M (List (Key × D)) := fun env => M.bind (fa env) fun x => onK x fun _ kvs => M.ret kvs
theorem dk_dictK {p : Pos} (ha : DE m X W ca a fa) (hg : Gl X "dict" := by rfl) (hm : X.mg "dict" = none := by assumption) (hs : starEach [a] X.env = (false, eval a X.env) :: starEach [] X.env := by rfl) : DK m X W ca (.Call (.Name "dict" p) [a] [] pos) (kCpyK fa) := by
  obtain ⟨t, pa, k⟩ := ha
  refine ⟨_, pe_callTy call_dictD hg hm (by decide +kernel) (pa_cons pa pa_nil hs) (he := hs), fun H0 g S σ env hS hE Q h => ?_⟩
  refine k H0 g S σ env hS hE _ (sat_mono (seqK' h) (fun x S1 q g1 v e1 s1 r1 => ?_) fun _ _ q => q)
  obtain ⟨n, ob, kvs, rfl, h1, h2, q⟩ := onK_get (q g1 e1)
  obtain ⟨l, vs, rfl, k1, k2, k3⟩ := s1.rawK h1 h2 r1
  exact ⟨l, vs, rfl, .inl k2, fun z hz => (show okK m ca g1 Q kvs S1 from q) (g1.nw z _) z _ (ext_nw s1 hz _) (sok_nw s1 hz _) hz upd_same (s1.free hz) (s1.nop hz) k3⟩
/-- two dicts of the store compared: of unlike length, or alike all through -/
def sameD : D → D → Bool
  | .int i, .int j => decide (i = j)
  | .str i, .str j => decide (i = j)
  | _, _ => false
def sameK (kvs ls : List (Key × D)) : Bool := kvs.all fun kv => match getK ls kv.1 with
  | some d => sameD kv.2 d
  | none => false
def eqKK (kvs ls : List (Key × D)) : Option Bool := if kvs.length = ls.length then (if sameK kvs ls = true then some true else none) else some false
theorem sameD_v {F : Hp} {p : Pi} {v w : V} {a b : D} (h : sameD a b = true) (r : Rp F p v a) (q : Rp F p w b) : w = v ∧ flatB v = true := by
  unfold sameD at h
  split at h
  · cases of_decide_eq_true h; cases r; cases q; exact ⟨rfl, rfl⟩
  · cases of_decide_eq_true h; cases r; cases q; exact ⟨rfl, rfl⟩
  · cases h
theorem rpK_len : ∀ {F : Hp} {p : Pi} {vs : List (Key × V)} {xs : List (Key × D)}, RpK F p vs xs → vs.length = xs.length
  | _, _, _, _, .nil => rfl
  | _, _, _, _, .cons _ t => by simp [rpK_len t]
theorem rpK_mem : ∀ {F : Hp} {p : Pi} {vs : List (Key × V)} {xs : List (Key × D)}, RpK F p vs xs → ∀ kv ∈ vs, ∃ d, (kv.1, d) ∈ xs ∧ Rp F p kv.2 d
  | _, _, _, _, .nil, kv, h => by cases h
  | _, _, _, _, .cons h t, kv, hm => by
    rcases List.mem_cons.mp hm with rfl | hm
    · exact ⟨_, List.mem_cons_self, h⟩
    · obtain ⟨d, h1, h2⟩ := rpK_mem t kv hm
      exact ⟨d, List.mem_cons_of_mem _ h1, h2⟩
theorem eqKK_run (hS : SOk ca g S) {n1 n2 : Nat} {ob1 ob2 : Ob} {kvs ls : List (Key × D)} {v w : V} (e1 : S[n1]? = some ob1) (r1 : ob1.raw = some (.k kvs)) (e2 : S[n2]? = some ob2) (r2 : ob2.raw = some (.k ls)) (q1 : Rp g.F g.p v (.obj n1)) (q2 : Rp g.F g.p w (.obj n2)) {b : Bool} (h : eqKK kvs ls = some b) (Q : VK) (k : Q (.bl b) g.H) :
    rEqDA v w g.H Q ∨ rEqDL v w g.H Q := by
  obtain ⟨A, vs, rfl, a1, a2, a3⟩ := hS.rawK e1 r1 q1
  obtain ⟨B, ws, rfl, b1, b2, b3⟩ := hS.rawK e2 r2 q2
  unfold eqKK at h
  by_cases c : kvs.length = ls.length
  · rw [if_pos c] at h
    by_cases c2 : sameK kvs ls = true
    · rw [if_pos c2] at h
      cases h
      refine .inl ⟨A, B, vs, ws, rfl, rfl, a2, b2, by rw [rpK_len a3, rpK_len b3, c], fun p hp => ?_, k⟩
      obtain ⟨d, h1, h2⟩ := rpK_mem a3 p hp
      have c2 := List.all_eq_true.mp c2 _ h1
      dsimp only at c2
      rcases getK_v b3 p.1 with ⟨g1, _⟩ | ⟨d', v', g1, g2, g3⟩
      · rw [g1] at c2; cases c2
      · rw [g1] at c2
        obtain ⟨z1, z2⟩ := sameD_v c2 h2 g3
        exact ⟨by rw [g2, z1], z2⟩
    · rw [if_neg c2] at h; cases h
  · rw [if_neg c] at h
    cases h
    exact .inr ⟨A, B, vs, ws, rfl, rfl, a2, b2, by rw [rpK_len a3, rpK_len b3]; exact c, k⟩
def eEqKK (fa fb : En → M D) : En → M D := fun env => M.bind (fa env) fun x => M.bind (fb env) fun y => onK x fun _ kvs => onK y fun _ ls => M.lift ((eqKK kvs ls).map D.bl)
theorem de_eqKK (hu : X.A.units + 64 < cLine) (ha : DE m X W ca a fa) (hb : DE m X W ca b fb) : DE m X W ca (.Compare a [.Eq] [b] pos) (eEqKK fa fb) := by
  obtain ⟨ta, pa, ka⟩ := ha
  obtain ⟨tb, pb, kb⟩ := hb
  have hu' : X.A.units < cLine := Nat.lt_of_le_of_lt (Nat.le_add_right _ _) hu
  refine ⟨_, pe_cmpR ((op_eq_dictA hu').or (op_eq_dictL hu')) pa pb (nomark _), fun H0 g S σ env hS hE Q h => ?_⟩
  refine ka H0 g S σ env hS hE _ (sat_mono (seqE h) (fun x S1 z g1 v e1 s1 r1 => ?_) fun _ _ q => q)
  refine kb H0 g1 S1 σ env s1 (hE.ext e1) _ (sat_mono (seqE (z g1 e1)) (fun y S2 z2 g2 w e2 s2 r2 => ?_) fun _ _ q => q)
  obtain ⟨n1, ob1, kvs, rfl, h1, h2, z3⟩ := onK_get (z2 g2 e2)
  obtain ⟨n2, ob2, ls, rfl, h3, h4, z4⟩ := onK_get z3
  obtain ⟨d, hd, z5⟩ := sat_lift z4
  cases e : eqKK kvs ls with
  | none => rw [e] at hd; cases hd
  | some b =>
    rw [e] at hd
    cases hd
    exact eqKK_run s2 h1 h2 h3 h4 (e2.rp r1) r2 e _ ((show okE m ca g2 Q (.bl b) S2 from z5) g2 _ (Ext.refl _) s2 (.bl b))
end
end Dn

namespace Dn
open PySem L2 PyProof.Rows PySem.Spec
/-! ### list(d.values()) -/
def vwO (p d : Addr) : HO := .ext fun h => h.get? p = some { cls := .type "dict_values", data := .fields #[.ref d] }
theorem vwO_ok {P : Program} {w : World} {H : Hp} {h : Heap} {p d : Addr} (e : h.get? p = some { cls := .type "dict_values", data := .fields #[.ref d] }) : ObjOk P w H h p (vwO p d) := ⟨e, ⟨_, e⟩, fun h1 h2 q k => k _ q⟩
def tVals (t : TE) : TE := fun σ H Q => t σ H fun x H1 => ∃ d kvs, x = .ref d ∧ Rd H1 d (.dK kvs) ∧ ∀ p, H1 p = none → Q (.ref p) (upd H1 p (vwO p d))
section
variable {X : Cx} {tg e : Expr} {td : TE} {apos cpos : Pos}
theorem pe_vals (he : PE X e td) (hbase : attributeBase e "values" X.env (eval e X.env) = eval e X.env := by rfl) (hline : (apos.endLine == cpos.line) = true := by rfl) : PE X (.Call (.Attribute e "values" apos) [] [] cpos) (tVals td) := by
  refine ⟨fun pins s σ H Q I h => ?_⟩
  refine wpAny_Call_method (T := "dict") (id := "dict.values") hbase rfl hline F.plainAttrs_dict F.slot_dict_values F.type_dict_values (thn (he.run pins s σ H _ I h) fun u s1 ⟨x, H1, I1, rx, d, kvs, ex, hd, q⟩ => ?_)
  subst ex
  obtain rfl : u = Value.ref d := rx
  obtain ⟨z, lo, vs, rel, dd⟩ := dk_rd I1.hok hd
  obtain ⟨ep, hm⟩ := dd.dictAt
  refine ⟨hm.dictOf.typeIs, hm.dictOf.mapOf.noDict, ?_⟩
  show wpAny _ _ (callWith cpos (.builtin "dict.values") [.ref d] [] []) _ X.xe s1
  refine method_meetsIn F.slot_dict_values F.entry_dict_values rfl (PySem.evalArgs_none ⟨rfl, hm.dictOf.typeIs, F.args_dict_values_1 _, _, meets_dict_values (mixKind X.prog X.w) d lo, ⟨vs, hm.dictOf⟩, ?_⟩)
  exact ⟨.ref s1.heap.objs.size, _, I1.laid (t' := s1.toks) (fun b o q => Heap.get?_push_of_some _ q) (Nat.le_refl _) (vwO_ok (Heap.get?_push_size _ rfl)), rfl, q _ (I1.hok.fresh (Nat.le_refl _))⟩
theorem vals_snd {kvs : List (Key × V)} {vs : List (Key × Value)} (h : KV kvs vs) : Vals (kvs.map (·.2)) (vs.map (·.2)) := by
  induction h with
  | nil => exact .nil
  | cons a _ ih => exact .cons a.2 ih
theorem call_listV (hcalm : X.calm = true) : CallR X (.type "list") (fun xs H Q => ∃ (p d : Addr) (kvs : List (Key × V)), xs = [.ref p] ∧ H p = some (vwO p d) ∧ Rd H d (.dK kvs) ∧ ∀ q, H q = none → Q (.ref q) (upd H q (.lst (kvs.map (·.2))))) := by
  intro pins s σ H xs us Q I r q
  obtain ⟨p, a, kvs, ex, hp, hd, q⟩ := q
  subst ex
  obtain ⟨u, eu, rx⟩ := vals1 r
  subst eu
  cases rx
  obtain ⟨z, lo, vs, rel, dd⟩ := dk_rd I.hok hd
  obtain ⟨ep, hat⟩ := dd.dictAt
  have hv : s.heap.get? p = some { cls := .type "dict_values", data := .fields #[.ref a] } := (show ObjOk X.prog X.w H s.heap p (vwO p a) from I.hok p _ hp).1
  refine PySem.W.kdl_call (PySem.W.kdl_values (knd := mixKind X.prog X.w) (kvs := vs) (ep := ep) (d := a) (r := p)) (I.ok.hd hcalm) ⟨⟨_, hv, rfl, rfl⟩, hat⟩ (by rw [← rel.length]; exact z) fun h' tk acc c' hk hD hacc => ?_
  have ha : acc.toList = vs.map (·.2) := PySem.W.kdl_vals_eq acc.toList (by rw [Array.length_toList]; exact hacc.1) fun j v e => hacc.2 j v (by rw [← Array.getElem?_toList]; exact e)
  have hv : Vals (kvs.map (·.2)) acc.toList := by rw [ha]; exact vals_snd rel
  refine ⟨.ref s.heap.objs.size, upd H s.heap.objs.size (.lst (kvs.map (·.2))), I.laid (t' := tk) hk (Nat.le_refl _)
    (show ObjOk X.prog X.w _ _ _ (.lst (kvs.map (·.2))) from ⟨by rw [List.length_map]; exact z, acc.toList, c', hv, by rw [Array.toArray_toList]; exact hD⟩), rfl, q _ (I.hok.fresh (Nat.le_refl _))⟩
end
theorem rpA_snd : ∀ {F : Hp} {p : Pi} {vs : List (Key × V)} {xs : List (Key × D)}, RpK F p vs xs → RpA F p (vs.map (·.2)) (xs.map (·.2))
  | _, _, _, _, .nil => .nil
  | _, _, _, _, .cons h t => .cons h (rpA_snd t)
section
variable {m : Bool} {X : Cx} {W : WX} {ca : Ct} {a b e o : Expr} {fa fb fo : En → M D} {pos apos p : Pos} {g : G} {S : Store}
/-- list(d.values()), d in the store -/
def oValsK (fa : En → M D) : En → M (List D) := fun env => M.bind (fa env) fun x => onK x fun _ kvs => M.ret (kvs.map (·.2))
theorem do_valsK {cpos : Pos} (ha : DE m X W ca a fa) (hc : X.calm = true := by rfl) (hg : Gl X "list" := by rfl) (hm : X.mg "list" = none := by assumption) (hbase : attributeBase a "values" X.env (eval a X.env) = eval a X.env := by rfl) (hline : (apos.endLine == cpos.line) = true := by rfl)
    (hs : starEach [(.Call (.Attribute a "values" apos) [] [] cpos)] X.env = (false, eval (.Call (.Attribute a "values" apos) [] [] cpos) X.env) :: starEach [] X.env := by rfl) : DO m X W ca (.Call (.Name "list" p) [.Call (.Attribute a "values" apos) [] [] cpos] [] pos) (oValsK fa) := by
  obtain ⟨t, pa, k⟩ := ha
  refine ⟨_, pe_callTy (call_listV hc) hg hm (by decide +kernel) (pa_cons (pe_vals pa hbase hline) pa_nil hs) (he := hs), fun H0 g S σ env hS hE Q h => ?_⟩
  refine k H0 g S σ env hS hE _ (sat_mono (seqO h) (fun x S1 q g1 v e1 s1 r1 => ?_) fun _ _ q => q)
  obtain ⟨n, ob, kvs, rfl, h1, h2, q⟩ := onK_get (q g1 e1)
  obtain ⟨l, vs, rfl, k1, k2, k3⟩ := s1.rawK h1 h2 r1
  refine ⟨l, vs, rfl, .inl k2, fun z0 hz0 => ?_⟩
  have nz : l ≠ z0 := fun e => by rw [e, hz0] at k2; cases k2
  refine ⟨z0, l, vs, rfl, upd_same, .inl (by rw [upd_ne nz]; exact k2), fun z hz => ?_⟩
  have n2 : z ≠ z0 := fun e => by rw [e, upd_same] at hz; cases hz
  have s2 := sok_nw s1 hz0 (vwO z0 l)
  have e2 := ext_nw (m := m) s1 hz0 (vwO z0 l)
  exact (show okO m ca g1 Q (kvs.map (·.2)) S1 from q) ((g1.nw z0 _).nw z _) z _ (e2.trans (ext_nw s2 hz _)) (sok_nw s2 hz _) (by rw [upd_ne n2] at hz; exact hz) upd_same (s2.free hz) (s2.nop hz) (rpA_snd k3)
end
end Dn

namespace Dn
open PySem L2 PyProof.Rows PySem.Spec
/-! ### an item of a dict of the store, where more may be written -/
section
variable {m : Bool} {X : Cx} {W : WX} {ca : Ct} {a b e o : Expr} {fa fb fo : En → M D} {pos : Pos} {g : G} {S : Store}
def eIxK (fo fi : En → M D) : En → M D := fun env => M.bind (fo env) fun x => M.bind (fi env) fun y => onK x fun _ kvs => M.lift ((keyD y).bind (getK kvs))
theorem de_ixK (hu : X.A.units + 64 < cLine) (ha : DE m X W ca a fa) (hb : DE m X W ca b fb) (hs : NoSl b := by intro _ _; rfl) : DE m X W ca (.Subscript a b pos) (eIxK fa fb) := by
  obtain ⟨ta, pa, ka⟩ := ha
  obtain ⟨tb, pb, kb⟩ := hb
  refine ⟨_, pe_dget (Nat.lt_of_le_of_lt (Nat.add_le_add_left (by decide : 1 ≤ 64) _) hu) pa pb hs, fun H0 g S σ env hS hE Q h => ?_⟩
  refine ka H0 g S σ env hS hE _ (sat_mono (seqE h) (fun x S1 z g1 v e1 s1 r1 => ?_) fun _ _ q => q)
  refine kb H0 g1 S1 σ env s1 (hE.ext e1) _ (sat_mono (seqE (z g1 e1)) (fun y S2 z2 g2 w e2 s2 r2 => ?_) fun _ _ q => q)
  obtain ⟨n, ob, kvs, rfl, h1, h2, z3⟩ := onK_get (z2 g2 e2)
  obtain ⟨c, vs, rfl, k1, k2, k3⟩ := s2.rawK h1 h2 (e2.rp r1)
  obtain ⟨d, hd, z3⟩ := sat_lift z3
  cases e1 : keyD y with
  | none => rw [e1] at hd; cases hd
  | some q =>
    rw [e1] at hd
    have hd : getK kvs q = some d := hd
    rcases getK_v k3 q with ⟨g1', _⟩ | ⟨d', v', g1', g2', g3'⟩
    · rw [g1'] at hd; cases hd
    · rw [g1'] at hd; cases hd
      exact ⟨_, v', rfl, .inl ⟨vs, q, .inl k2, keyD_v (Rp.mono s2.same (PiLe.refl _) r2) e1, g2'.symm⟩, (show okE m ca g2 Q _ S2 from z3) g2 v' (Ext.refl _) s2 g3'⟩
end
end Dn

namespace Dn
open PySem L2 PyProof.Rows PySem.Spec
/-! ### dicts of the store: unlike? -/
def rNeDL : R2 := fun x y H Q => ∃ a b ks ls, x = .ref a ∧ y = .ref b ∧ H a = some (.dK ks) ∧ H b = some (.dK ls) ∧ ks.length ≠ ls.length ∧ Q (.bl true) H
theorem op_ne_dictL {X : Cx} (hu : X.A.units < cLine) : OpR X (compareOp .NotEq) rNeDL := by
  intro pins s σ H x y v u Q I rx ry h
  obtain ⟨a, b, ks, ls, rfl, rfl, ea, eb, hlen, q⟩ := h
  obtain rfl : v = Value.ref a := rx
  obtain rfl : u = Value.ref b := ry
  obtain ⟨_, ya, va, ra, da⟩ := (show ObjOk X.prog X.w H s.heap a (.dK ks) from I.hok a _ ea)
  obtain ⟨_, yb, vb, rb, db⟩ := (show ObjOk X.prog X.w H s.heap b (.dK ls) from I.hok b _ eb)
  have hl : va.length ≠ vb.length := by rw [← ra.length, ← rb.length]; exact hlen
  exact PySem.W.keq_ne (knd := mixKind X.prog X.w) (r := true) ya yb da db hu (fun z => absurd z hl) (fin_bl I q (by simp [hl]))
section
variable {m : Bool} {X : Cx} {W : WX} {ca : Ct} {a b e o : Expr} {fa fb fo : En → M D} {pos : Pos} {g : G} {S : Store}
theorem neKK_run (hS : SOk ca g S) {n1 n2 : Nat} {ob1 ob2 : Ob} {kvs ls : List (Key × D)} {v w : V} (e1 : S[n1]? = some ob1) (r1 : ob1.raw = some (.k kvs)) (e2 : S[n2]? = some ob2) (r2 : ob2.raw = some (.k ls)) (q1 : Rp g.F g.p v (.obj n1)) (q2 : Rp g.F g.p w (.obj n2)) {b : Bool} (h : eqKK kvs ls = some b) (Q : VK) (k : Q (.bl (!b)) g.H) :
    rNeDA v w g.H Q ∨ rNeDL v w g.H Q := by
  obtain ⟨A, vs, rfl, a1, a2, a3⟩ := hS.rawK e1 r1 q1
  obtain ⟨B, ws, rfl, b1, b2, b3⟩ := hS.rawK e2 r2 q2
  unfold eqKK at h
  by_cases c : kvs.length = ls.length
  · rw [if_pos c] at h
    by_cases c2 : sameK kvs ls = true
    · rw [if_pos c2] at h
      cases h
      refine .inl ⟨A, B, vs, ws, rfl, rfl, a2, b2, by rw [rpK_len a3, rpK_len b3, c], fun p hp => ?_, k⟩
      obtain ⟨d, h1, h2⟩ := rpK_mem a3 p hp
      have c2 := List.all_eq_true.mp c2 _ h1
      dsimp only at c2
      rcases getK_v b3 p.1 with ⟨g1, _⟩ | ⟨d', v', g1, g2, g3⟩
      · rw [g1] at c2; cases c2
      · rw [g1] at c2
        obtain ⟨z1, z2⟩ := sameD_v c2 h2 g3
        exact ⟨by rw [g2, z1], z2⟩
    · rw [if_neg c2] at h; cases h
  · rw [if_neg c] at h
    cases h
    exact .inr ⟨A, B, vs, ws, rfl, rfl, a2, b2, by rw [rpK_len a3, rpK_len b3]; exact c, k⟩
def eNeKK (fa fb : En → M D) : En → M D := fun env => M.bind (fa env) fun x => M.bind (fb env) fun y => onK x fun _ kvs => onK y fun _ ls => M.lift ((eqKK kvs ls).map fun b => D.bl (!b))
theorem de_neKK (hu : X.A.units + 64 < cLine) (ha : DE m X W ca a fa) (hb : DE m X W ca b fb) : DE m X W ca (.Compare a [.NotEq] [b] pos) (eNeKK fa fb) := by
  obtain ⟨ta, pa, ka⟩ := ha
  obtain ⟨tb, pb, kb⟩ := hb
  have hu' : X.A.units < cLine := Nat.lt_of_le_of_lt (Nat.le_add_right _ _) hu
  refine ⟨_, pe_cmpR ((op_ne_dictA hu').or (op_ne_dictL hu')) pa pb (nomark _), fun H0 g S σ env hS hE Q h => ?_⟩
  refine ka H0 g S σ env hS hE _ (sat_mono (seqE h) (fun x S1 z g1 v e1 s1 r1 => ?_) fun _ _ q => q)
  refine kb H0 g1 S1 σ env s1 (hE.ext e1) _ (sat_mono (seqE (z g1 e1)) (fun y S2 z2 g2 w e2 s2 r2 => ?_) fun _ _ q => q)
  obtain ⟨n1, ob1, kvs, rfl, h1, h2, z3⟩ := onK_get (z2 g2 e2)
  obtain ⟨n2, ob2, ls, rfl, h3, h4, z4⟩ := onK_get z3
  obtain ⟨d, hd, z5⟩ := sat_lift z4
  cases e : eqKK kvs ls with
  | none => rw [e] at hd; cases hd
  | some b =>
    rw [e] at hd
    cases hd
    exact neKK_run s2 h1 h2 h3 h4 (e2.rp r1) r2 e _ ((show okE m ca g2 Q (.bl !b) S2 from z5) g2 _ (Ext.refl _) s2 (.bl _))
/-- .. as tests -/
def tEqKK (fa fb : En → M D) : En → M Bool := fun env => M.bind (fa env) fun x => M.bind (fb env) fun y => onK x fun _ kvs => onK y fun _ ls => M.lift (eqKK kvs ls)
def tNeKK (fa fb : En → M D) : En → M Bool := fun env => M.bind (fa env) fun x => M.bind (fb env) fun y => onK x fun _ kvs => onK y fun _ ls => M.lift ((eqKK kvs ls).map fun b => !b)
theorem dt_eqKK (hu : X.A.units + 64 < cLine) (ha : DE m X W ca a fa) (hb : DE m X W ca b fb) : DT m X W ca (.Compare a [.Eq] [b] pos) (tEqKK fa fb) := by
  obtain ⟨ta, pa, ka⟩ := ha
  obtain ⟨tb, pb, kb⟩ := hb
  have hu' : X.A.units < cLine := Nat.lt_of_le_of_lt (Nat.le_add_right _ _) hu
  refine ⟨_, pt_cmpR ((op_eq_dictA hu').or (op_eq_dictL hu')) pa pb (nomark _), fun H0 g S σ env hS hE Q h => ?_⟩
  refine ka H0 g S σ env hS hE _ (sat_mono (seqT h) (fun x S1 z g1 v e1 s1 r1 => ?_) fun _ _ q => q)
  refine kb H0 g1 S1 σ env s1 (hE.ext e1) _ (sat_mono (seqT (z g1 e1)) (fun y S2 z2 g2 w e2 s2 r2 => ?_) fun _ _ q => q)
  obtain ⟨n1, ob1, kvs, rfl, h1, h2, z3⟩ := onK_get (z2 g2 e2)
  obtain ⟨n2, ob2, ls, rfl, h3, h4, z4⟩ := onK_get z3
  obtain ⟨d, hd, z5⟩ := sat_lift z4
  exact eqKK_run s2 h1 h2 h3 h4 (e2.rp r1) r2 hd _ ⟨d, rfl, (show okT m ca g2 Q d S2 from z5) g2 (Ext.refl _) s2⟩
theorem dt_neKK (hu : X.A.units + 64 < cLine) (ha : DE m X W ca a fa) (hb : DE m X W ca b fb) : DT m X W ca (.Compare a [.NotEq] [b] pos) (tNeKK fa fb) := by
  obtain ⟨ta, pa, ka⟩ := ha
  obtain ⟨tb, pb, kb⟩ := hb
  have hu' : X.A.units < cLine := Nat.lt_of_le_of_lt (Nat.le_add_right _ _) hu
  refine ⟨_, pt_cmpR ((op_ne_dictA hu').or (op_ne_dictL hu')) pa pb (nomark _), fun H0 g S σ env hS hE Q h => ?_⟩
  refine ka H0 g S σ env hS hE _ (sat_mono (seqT h) (fun x S1 z g1 v e1 s1 r1 => ?_) fun _ _ q => q)
  refine kb H0 g1 S1 σ env s1 (hE.ext e1) _ (sat_mono (seqT (z g1 e1)) (fun y S2 z2 g2 w e2 s2 r2 => ?_) fun _ _ q => q)
  obtain ⟨n1, ob1, kvs, rfl, h1, h2, z3⟩ := onK_get (z2 g2 e2)
  obtain ⟨n2, ob2, ls, rfl, h3, h4, z4⟩ := onK_get z3
  obtain ⟨d, hd, z5⟩ := sat_lift z4
  cases e : eqKK kvs ls with
  | none => rw [e] at hd; cases hd
  | some b =>
    rw [e] at hd
    cases hd
    exact neKK_run s2 h1 h2 h3 h4 (e2.rp r1) r2 e _ ⟨_, rfl, (show okT m ca g2 Q (!b) S2 from z5) g2 (Ext.refl _) s2⟩
end
end Dn

namespace Dn
open PySem L2 PyProof.Rows
/-! ### plain laws of the denotations -/
theorem bind_ok {α β : Type} {c : M α} {k : α → M β} {S S' : Store} {a : α} (h : c S = .ok a S') : M.bind c k S = k a S' := by unfold M.bind; rw [h]
theorem liftS_ok {α : Type} {c : M α} {env : En} {k : α → M Fl} {S S' : Store} {a : α} (h : c S = .ok a S') : liftS c env k S = k a S' := by unfold liftS; rw [h]
theorem liftS_exc {α : Type} {c : M α} {env : En} {k : α → M Fl} {S S' : Store} {x : Str} (h : c S = .exc x S') : liftS c env k S = .ok (.ex x env) S' := by unfold liftS; rw [h]
theorem quiet_ok {α : Type} {c : M α} {S S' : Store} {a : α} (h : c S = .ok a S') : quiet c S = .ok a S' := by unfold quiet; rw [h]
theorem sCons_nx {f r : En → M Fl} {env env' : En} {S S' : Store} (h : f env S = .ok (.nx env') S') : sCons f r env S = r env' S' := by unfold sCons; rw [bind_ok h]
theorem sCons_rt {f r : En → M Fl} {env : En} {d : D} {S S' : Store} (h : f env S = .ok (.rt d) S') : sCons f r env S = .ok (.rt d) S' := by unfold sCons; rw [bind_ok h]; rfl
theorem sCons_ex {f r : En → M Fl} {env env' : En} {c : Str} {S S' : Store} (h : f env S = .ok (.ex c env') S') : sCons f r env S = .ok (.ex c env') S' := by unfold sCons; rw [bind_ok h]; rfl
theorem lcD_eval {b : D → En → Option En} {t : En → M Bool} {elt : En → M D} {env : En} (p : D → Bool) (f : D → D) {S : Store} : ∀ (ds acc : List D),
    (∀ d ∈ ds, ∃ env1, b d env = some env1 ∧ t env1 S = .ok (p d) S ∧ (p d = true → elt env1 S = .ok (f d) S)) → acc.length + ds.length ≤ lim → lcD b t elt env ds acc S = .ok (acc ++ (ds.filter p).map f) S
  | [], acc, _, _ => by simp [lcD, M.ret]
  | d :: ds, acc, h, hl => by
    obtain ⟨env1, h1, h2, h3⟩ := h d List.mem_cons_self
    have hl' : acc.length + (ds.length + 1) ≤ lim := by simpa using hl
    unfold lcD
    rw [h1]
    show M.bind _ _ S = _
    rw [bind_ok (quiet_ok h2)]
    cases e : p d with
    | false =>
      rw [if_neg (by simp), lcD_eval p f ds acc (fun d hd => h d (List.mem_cons_of_mem _ hd)) (by omega), List.filter_cons, if_neg (by rw [e]; simp)]
    | true =>
      rw [if_pos rfl, bind_ok (quiet_ok (h3 e))]
      rw [if_pos (show acc.length < lim by omega), lcD_eval p f ds (acc ++ [f d]) (fun d hd => h d (List.mem_cons_of_mem _ hd)) (by simp; omega), List.filter_cons, if_pos e]
      simp
theorem forD_ind {body : En → M Fl} {b : D → En → Option En} (I : List D → En → Store → Prop) (Post : Fl → Store → Prop) (hd : ∀ env S, I [] env S → Post (.nx env) S)
    (hs : ∀ d ds env S, I (d :: ds) env S → ∃ env1, b d env = some env1 ∧ ∃ fl S', body env1 S = .ok fl S' ∧ match fl with
      | .nx e => I ds e S'
      | .ct e => I ds e S'
      | .bk e => Post (.nx e) S'
      | o => Post o S') : ∀ ds env S, I ds env S → ∃ fl S', forD body b ds env S = .ok fl S' ∧ Post fl S'
  | [], env, S, h => ⟨_, _, rfl, hd env S h⟩
  | d :: ds, env, S, h => by
    obtain ⟨env1, h1, fl, S', h2, h3⟩ := hs d ds env S h
    unfold forD
    rw [h1]
    show ∃ fl S', M.bind _ _ S = _ ∧ _
    rw [bind_ok h2]
    cases fl with
    | nx e => exact forD_ind I Post hd hs ds e S' h3
    | ct e => exact forD_ind I Post hd hs ds e S' h3
    | bk e => exact ⟨_, _, rfl, h3⟩
    | rt d => exact ⟨_, _, rfl, h3⟩
    | rtO d => exact ⟨_, _, rfl, h3⟩
    | ex c e => exact ⟨_, _, rfl, h3⟩
/-! ### texts as lists of signs -/
abbrev tx (l : List Nat) : Str := ⟨l.toArray⟩
theorem tx_len (l : List Nat) : (tx l).length = l.length := by simp [Str.length]
theorem tx_of (s : Str) : tx s.cps.toList = s := rfl
theorem tx_inj {a b : List Nat} (h : tx a = tx b) : a = b := by
  have := congrArg (fun x : Str => x.cps.toList) h
  simpa using this
theorem tx_app (a b : List Nat) : tx a ++ tx b = tx (a ++ b) := TL.ext_tl (TL.tl_append (tx a) (tx b))
theorem ordO_one (c : Nat) : ordO [.str ⟨#[c]⟩] = some (.int c) := rfl
theorem ix_sign {l : List Nat} {i : Nat} {c : Nat} (h : l[i]? = some c) (hl : l.length ≤ lim) : ixD (.str (tx l)) (.int (i : Int)) = some (.str ⟨#[c]⟩) := by
  show (if (tx l).length ≤ lim then (atI l (i : Int)).map fun c => D.str ⟨#[c]⟩ else none) = _
  rw [if_pos (by rw [tx_len]; exact hl), atI_nat h]
  rfl
/-- a sign of a written text -/
theorem lit_at {s : Str} (l : List Nat) (e : s = tx l) (P : Nat → Bool) (hP : l.all P = true) (hl : l.length ≤ 1000) {i : Int} (h0 : 0 ≤ i) (h1 : i < l.length) : ∃ c, ixD (.str s) (.int i) = some (.str ⟨#[c]⟩) ∧ P c = true ∧ l[i.toNat]? = some c := by
  obtain ⟨j, rfl⟩ : ∃ j : Nat, i = j := ⟨i.toNat, by omega⟩
  have hj : j < l.length := by omega
  refine ⟨l[j], ?_, List.all_eq_true.mp hP _ (List.getElem_mem hj), by simp [hj]⟩
  rw [e]
  exact ix_sign (List.getElem?_eq_getElem hj) (Nat.le_trans hl (by decide))
end Dn
namespace Dn
open PySem L2 PyProof.Rows
theorem eqD_str (a b : Str) : eqD (.str a) (.str b) = some (decide (a = b)) := by
  unfold eqD
  rw [if_pos (show scalD _ _ = true ∨ _ from Or.inl rfl)]
  simp [toPy, PyData.eqv]
  rw [Bool.eq_iff_iff]; simp
theorem eqD_int (a b : Int) : eqD (.int a) (.int b) = some (decide (a = b)) := by
  unfold eqD
  rw [if_pos (show scalD _ _ = true ∨ _ from Or.inl rfl)]
  simp [toPy, PyData.eqv]
  rw [Bool.eq_iff_iff]; simp
theorem eqD_bl (a b : Bool) : eqD (.bl a) (.bl b) = some (decide (a = b)) := by
  unfold eqD
  rw [if_pos (show scalD _ _ = true ∨ _ from Or.inl rfl)]
  simp [toPy, PyData.eqv]
  rw [Bool.eq_iff_iff]; simp
theorem neD_str (a b : Str) : neD (.str a) (.str b) = some (!decide (a = b)) := by unfold neD; rw [eqD_str]; rfl
theorem neD_int (a b : Int) : neD (.int a) (.int b) = some (!decide (a = b)) := by unfold neD; rw [eqD_int]; rfl
theorem neD_bl (a b : Bool) : neD (.bl a) (.bl b) = some (!decide (a = b)) := by unfold neD; rw [eqD_bl]; rfl
theorem blsD_map : ∀ (bs : List Bool), blsD (bs.map D.bl) = some bs
  | [] => rfl
  | b :: bs => by simp [blsD, blsD_map bs]
theorem strsD_map : ∀ (bs : List Str), strsD (bs.map D.str) = some bs
  | [] => rfl
  | b :: bs => by simp [strsD, strsD_map bs]
theorem intsD_map : ∀ (bs : List Int), intsD (bs.map D.int) = some bs
  | [] => rfl
  | b :: bs => by simp [intsD, intsD_map bs]
theorem inD_sign (c : Nat) (l : List Nat) : inD (.str ⟨#[c]⟩) (.str (tx l)) = some (decide (c ∈ l)) := by
  show some (inStr ⟨#[c]⟩ (tx l)) = _
  unfold inStr
  rw [← show (decide (c ∈ (tx l).cps.toList)) = decide (c ∈ l) from rfl, PySem.StrLaws.found_one (tx l) c]
theorem ninD_sign (c : Nat) (l : List Nat) : ninD (.str ⟨#[c]⟩) (.str (tx l)) = some (!decide (c ∈ l)) := by unfold ninD; rw [inD_sign]; rfl
theorem lenO_tx (l : List Nat) (h : l.length ≤ lim) : lenO [.str (tx l)] = some (.int l.length) := by
  show (if (tx l).length ≤ lim then some (D.int (tx l).length) else none) = _
  rw [tx_len, if_pos h]
theorem signs_tx (l : List Nat) : signsD (tx l) = l.map fun c => .str ⟨#[c]⟩ := rfl
/-- the joined signs -/
theorem joinL_nil : ∀ ls : List (List Nat), TL.joinL [] ls = ls.flatten
  | [] => rfl
  | [p] => by simp [TL.joinL]
  | p :: q :: r => by
    show p ++ ([] ++ TL.joinL [] (q :: r)) = _
    rw [joinL_nil (q :: r)]
    simp
theorem join_tx (ls : List (List Nat)) : Txt.join (tx []) (ls.map tx) = tx ls.flatten := by
  refine TL.ext_tl ?_
  rw [TL.join_eq, TL.tl_join, List.map_map]
  have : (TL.tl ∘ tx) = (id : List Nat → List Nat) := by funext l; rfl
  rw [this, List.map_id]
  exact joinL_nil ls
end Dn
/-! ### the monad's laws -/
namespace Dn
open PySem L2 PyProof.Rows
section
variable {α β : Type}
theorem ret_bind (a : α) (k : α → M β) : M.bind (M.ret a) k = k a := rfl
theorem bad_bind (k : α → M β) : M.bind (M.bad : M α) k = M.bad := rfl
theorem raise_bind (c : Str) (k : α → M β) : M.bind (M.raise c : M α) k = M.raise c := rfl
theorem ite_bind (c : Prop) [Decidable c] (x y : M α) (k : α → M β) : M.bind (if c then x else y) k = if c then M.bind x k else M.bind y k := by split <;> rfl
theorem lift_some (a : α) : M.lift (some a) = M.ret a := rfl
theorem lift_none : M.lift (none : Option α) = M.bad := rfl
theorem lift_ite (c : Prop) [Decidable c] (x y : Option α) : M.lift (if c then x else y) = if c then M.lift x else M.lift y := by split <;> rfl
theorem liftS_ret (a : α) (env : En) (k : α → M Fl) : liftS (M.ret a) env k = k a := rfl
theorem liftS_bad (env : En) (k : α → M Fl) : liftS (M.bad : M α) env k = M.bad := rfl
theorem liftS_raise (c : Str) (env : En) (k : α → M Fl) : liftS (M.raise c : M α) env k = M.ret (.ex c env) := rfl
theorem liftS_ite (c : Prop) [Decidable c] (x y : M α) (env : En) (k : α → M Fl) : liftS (if c then x else y) env k = if c then liftS x env k else liftS y env k := by split <;> rfl
theorem quiet_ret (a : α) : quiet (M.ret a) = M.ret a := rfl
theorem quiet_bad : quiet (M.bad : M α) = M.bad := rfl
theorem quiet_ite (c : Prop) [Decidable c] (x y : M α) : quiet (if c then x else y) = if c then quiet x else quiet y := by split <;> rfl
theorem bind_assoc' {γ : Type} (x : M α) (k : α → M β) (h : β → M γ) : M.bind (M.bind x k) h = M.bind x fun a => M.bind (k a) h := by
  funext S
  unfold M.bind
  cases x S <;> rfl
theorem liftS_bind (x : M β) (k : β → M α) (env : En) (h : α → M Fl) : liftS (M.bind x k) env h = liftS x env fun a => liftS (k a) env h := by
  funext S
  unfold liftS M.bind
  cases x S <;> rfl
theorem ite_app {γ : Type} (c : Prop) [Decidable c] (x y : γ → β) (z : γ) : (if c then x else y) z = if c then x z else y z := by split <;> rfl
end
/-- a comprehension whose parts are known -/
theorem lcD_ret {b : D → En → Option En} {t : En → M Bool} {elt : En → M D} {env : En} (p : D → Bool) (f : D → D) (ds : List D)
    (h : ∀ d ∈ ds, ∃ env1, b d env = some env1 ∧ t env1 = M.ret (p d) ∧ (p d = true → elt env1 = M.ret (f d))) (hl : ds.length ≤ lim) : lcD b t elt env ds [] = M.ret ((ds.filter p).map f) := by
  funext S
  rw [lcD_eval p f ds [] (fun d hd => by
    obtain ⟨e, h1, h2, h3⟩ := h d hd
    exact ⟨e, h1, by rw [h2]; rfl, fun z => by rw [h3 z]; rfl⟩) (by simpa using hl)]
  rfl
/-- .. over what is encoded, without a test -/
theorem lcD_map {α : Type} {b : D → En → Option En} {elt : En → M D} {env : En} (xs : List α) (enc : α → D) (f : α → D) (hl : xs.length ≤ lim) (h : ∀ x ∈ xs, ∃ env1, b (enc x) env = some env1 ∧ elt env1 = M.ret (f x)) : lcD b tYesD elt env (xs.map enc) [] = M.ret (xs.map f) := by
  have key : ∀ (xs : List α) (acc : List D), (∀ x ∈ xs, ∃ env1, b (enc x) env = some env1 ∧ elt env1 = M.ret (f x)) → acc.length + xs.length ≤ lim → lcD b tYesD elt env (xs.map enc) acc = M.ret (acc ++ xs.map f) := by
    intro xs
    induction xs with
    | nil => intro acc _ _; simp [lcD]
    | cons x xs ih =>
      intro acc h hl
      obtain ⟨e, h1, h2⟩ := h x List.mem_cons_self
      have hl : acc.length + (xs.length + 1) ≤ lim := by simpa using hl
      rw [List.map_cons]
      unfold lcD
      rw [h1]
      show M.bind (quiet (M.ret true)) _ = _
      rw [quiet_ret, ret_bind, if_pos rfl, h2, quiet_ret, ret_bind, if_pos (show acc.length < lim by omega), ih _ (fun y hy => h y (List.mem_cons_of_mem _ hy)) (by simp; omega)]
      simp
  simpa using key xs [] h (by simpa using hl)
/-- a loop that carries a state -/
theorem forD_fold {α σ : Type} {body : En → M Fl} {b : D → En → Option En} (enc : α → D) (ev : σ → En) (step : σ → α → σ) (xs : List α) (h : ∀ s, ∀ x ∈ xs, ∃ env1, b (enc x) (ev s) = some env1 ∧ body env1 = M.ret (.nx (ev (step s x)))) :
    ∀ s, forD body b (xs.map enc) (ev s) = M.ret (.nx (ev (xs.foldl step s))) := by
  induction xs with
  | nil => intro s; rfl
  | cons x xs ih =>
    intro s
    obtain ⟨e, h1, h2⟩ := h s x List.mem_cons_self
    rw [List.map_cons]
    unfold forD
    rw [h1]
    show M.bind (body e) _ = _
    rw [h2, ret_bind]
    exact ih (fun s y hy => h s y (List.mem_cons_of_mem _ hy)) _
/-- a loop that looks for something -/
theorem forD_find {α : Type} {body : En → M Fl} {b : D → En → Option En} (enc : α → D) (hit : α → Option D) (I : En → Prop) : ∀ (xs : List α) (env : En), I env → (∀ env, I env → ∀ x ∈ xs, ∃ env1, b (enc x) env = some env1 ∧ match hit x with
      | some d => body env1 = M.ret (.rt d)
      | none => ∃ env2, body env1 = M.ret (.nx env2) ∧ I env2) →
    (∃ d, xs.findSome? hit = some d ∧ forD body b (xs.map enc) env = M.ret (.rt d)) ∨ (xs.findSome? hit = none ∧ ∃ env', I env' ∧ forD body b (xs.map enc) env = M.ret (.nx env'))
  | [], env, i, _ => .inr ⟨rfl, env, i, rfl⟩
  | x :: xs, env, i, h => by
    obtain ⟨e, h1, h2⟩ := h env i x List.mem_cons_self
    rw [List.map_cons]
    unfold forD
    rw [h1]
    cases hx : hit x with
    | some d =>
      rw [hx] at h2
      refine .inl ⟨d, by rw [List.findSome?_cons, hx], ?_⟩
      show M.bind (body e) _ = _
      rw [h2, ret_bind]
    | none =>
      rw [hx] at h2
      obtain ⟨env2, h3, h4⟩ := h2
      rw [List.findSome?_cons, hx]
      have ih := forD_find enc hit I xs env2 h4 fun env i y hy => h env i y (List.mem_cons_of_mem _ hy)
      have e2 : M.bind (body e) (fun fl => match fl with
        | .nx e => forD body b (xs.map enc) e
        | .ct e => forD body b (xs.map enc) e
        | .bk e => M.ret (.nx e)
        | o => M.ret o) = forD body b (xs.map enc) env2 := by rw [h3, ret_bind]
      rcases ih with ⟨d, h5, h6⟩ | ⟨h5, env', h6, h7⟩
      · exact .inl ⟨d, h5, e2.trans h6⟩
      · exact .inr ⟨h5, env', h6, e2.trans h7⟩
end Dn
namespace Dn
open PySem L2 PyProof.Rows
theorem tx_eq_nil (l : List Nat) : (tx l = Str.ofString "") = (l = []) := propext ⟨fun h => tx_inj (h.trans (show Str.ofString "" = tx [] from rfl)), fun h => by subst h; rfl⟩
theorem allO_map {α : Type} (xs : List α) (g : α → Bool) : allO [.lst (xs.map fun x => .bl (g x))] = some (.bl (xs.all g)) := by
  have e : (xs.map fun x => D.bl (g x)) = (xs.map g).map D.bl := by simp
  show (blsD (xs.map fun x => D.bl (g x))).map (fun bs => D.bl (bs.all id)) = _
  rw [e, blsD_map]
  simp
end Dn

namespace Dn
open PySem L2 PyProof.Rows
/-! ### equations with the store applied: what is after a step stays asleep -/
section
variable {α β γ : Type}
def bindR (r : R α) (k : α → M β) : R β := match r with
  | .ok a S => k a S
  | .exc c S => .exc c S
  | .bad => .bad
def liftR (r : R α) (env : En) (k : α → M Fl) : R Fl := match r with
  | .ok a S => k a S
  | .exc c S => .ok (.ex c env) S
  | .bad => .bad
theorem bind_S (c : M α) (k : α → M β) (S : Store) : M.bind c k S = bindR (c S) k := rfl
theorem liftS_S (c : M α) (env : En) (k : α → M Fl) (S : Store) : liftS c env k S = liftR (c S) env k := rfl
theorem bindR_ok (a : α) (S : Store) (k : α → M β) : bindR (.ok a S) k = k a S := rfl
theorem bindR_exc (c : Str) (S : Store) (k : α → M β) : bindR (.exc c S) k = .exc c S := rfl
theorem bindR_bad (k : α → M β) : bindR .bad k = .bad := rfl
theorem liftR_ok (a : α) (S : Store) (env : En) (k : α → M Fl) : liftR (.ok a S) env k = k a S := rfl
theorem liftR_exc (c : Str) (S : Store) (env : En) (k : α → M Fl) : liftR (.exc c S) env k = .ok (.ex c env) S := rfl
theorem liftR_bad (env : En) (k : α → M Fl) : liftR .bad env k = .bad := rfl
theorem ret_S (a : α) (S : Store) : M.ret a S = .ok a S := rfl
theorem bad_S (S : Store) : (M.bad : M α) S = .bad := rfl
theorem raise_S (c : Str) (S : Store) : (M.raise c : M α) S = .exc c S := rfl
theorem lift_some_S (a : α) (S : Store) : M.lift (some a) S = .ok a S := rfl
theorem lift_none_S (S : Store) : M.lift (none : Option α) S = .bad := rfl
def quietR (r : R α) : R α := match r with
  | .ok a S' => .ok a S'
  | _ => .bad
theorem quiet_S (c : M α) (S : Store) : quiet c S = quietR (c S) := rfl
theorem quietR_ok (a : α) (S : Store) : quietR (.ok a S) = .ok a S := rfl
theorem quietR_exc (c : Str) (S : Store) : quietR (.exc c S : R α) = .bad := rfl
theorem quietR_bad : quietR (.bad : R α) = .bad := rfl
theorem ite_S (c : Prop) [Decidable c] (x y : M α) (S : Store) : (if c then x else y) S = if c then x S else y S := by split <;> rfl
theorem forD_nil_S (body : En → M Fl) (b : D → En → Option En) (env : En) (S : Store) : forD body b [] env S = .ok (.nx env) S := rfl
theorem forD_cons_S (body : En → M Fl) (b : D → En → Option En) (d : D) (ds : List D) (env : En) (S : Store) : forD body b (d :: ds) env S = (match b d env with
    | none => M.bad
    | some env1 => M.bind (body env1) fun fl => match fl with
      | .nx e => forD body b ds e
      | .ct e => forD body b ds e
      | .bk e => M.ret (.nx e)
      | o => M.ret o) S := rfl
end
theorem eO_S (f : En → M (List D)) (env : En) (S : Store) : eO f env S = (M.bind (f env) fun xs => M.ret (.lst xs) : M D) S := rfl
theorem eVar_S (i : Nat) (env : En) (S : Store) : eVar i env S = (match env[i]? with
    | some (.f d) => M.ret d
    | _ => M.bad : M D) S := rfl
theorem eC_S (d : D) (env : En) (S : Store) : eC d env S = (M.ret d : M D) S := rfl
theorem eVarB_S (i : Nat) (env : En) (S : Store) : eVarB i env S = (match env[i]? with
    | some (.f d) => M.ret d
    | some (.o xs) => M.ret (.lst xs)
    | some (.k xs) => M.ret (.dct xs)
    | _ => M.bad : M D) S := rfl
theorem aNil_S  (env : En) (S : Store) : aNil  env S = (M.ret [] : M (List D)) S := rfl
theorem aCons_S (f : En → M D) (r : En → M (List D)) (env : En) (S : Store) : aCons f r env S = (M.bind (f env) fun d => M.bind (r env) fun ds => M.ret (d :: ds) : M (List D)) S := rfl
theorem eTup_S (a : En → M (List D)) (env : En) (S : Store) : eTup a env S = (M.bind (a env) fun ds => if ds.length ≤ lim then M.ret (.tup ds) else M.bad : M D) S := rfl
theorem eLst_S (a : En → M (List D)) (env : En) (S : Store) : eLst a env S = (M.bind (a env) fun ds => if ds.length ≤ lim then M.ret ds else M.bad : M (List D)) S := rfl
theorem eBin_S (op : D → D → Option D) (a b : En → M D) (env : En) (S : Store) : eBin op a b env S = (M.bind (a env) fun x => M.bind (b env) fun y => M.lift (op x y) : M D) S := rfl
theorem tBin_S (op : D → D → Option Bool) (a b : En → M D) (env : En) (S : Store) : tBin op a b env S = (M.bind (a env) fun x => M.bind (b env) fun y => M.lift (op x y) : M Bool) S := rfl
theorem oCat_S (a b : En → M D) (env : En) (S : Store) : oCat a b env S = (M.bind (a env) fun x => M.bind (b env) fun y => match x, y with
    | .lst xs, .lst ys => if xs.length + ys.length ≤ lim then M.ret (xs ++ ys) else M.bad
    | _, _ => M.bad : M (List D)) S := rfl
theorem tAndD_S (a b : En → M Bool) (env : En) (S : Store) : tAndD a b env S = (M.bind (a env) fun x => if x = true then b env else M.ret false : M Bool) S := rfl
theorem tOrD_S (a b : En → M Bool) (env : En) (S : Store) : tOrD a b env S = (M.bind (a env) fun x => if x = true then M.ret true else b env : M Bool) S := rfl
theorem tNotD_S (a : En → M Bool) (env : En) (S : Store) : tNotD a env S = (M.bind (a env) fun x => M.ret (!x) : M Bool) S := rfl
theorem eAndD_S (a b : En → M D) (env : En) (S : Store) : eAndD a b env S = (M.bind (a env) fun x => match x with
    | .bl k => if k = true then b env else M.ret (.bl false)
    | _ => M.bad : M D) S := rfl
theorem eOrD_S (a b : En → M D) (env : En) (S : Store) : eOrD a b env S = (M.bind (a env) fun x => match x with
    | .bl k => if k = true then M.ret (.bl true) else b env
    | _ => M.bad : M D) S := rfl
theorem eNotD_S (a : En → M D) (env : En) (S : Store) : eNotD a env S = (M.bind (a env) fun x => match x with
    | .bl k => M.ret (.bl (!k))
    | _ => M.bad : M D) S := rfl
theorem eNegD_S (a : En → M D) (env : En) (S : Store) : eNegD a env S = (M.bind (a env) fun x => match x with
    | .int k => M.ret (.int (-k))
    | _ => M.bad : M D) S := rfl
theorem tValD_S (a : En → M D) (env : En) (S : Store) : tValD a env S = (M.bind (a env) fun x => M.lift (truD x) : M Bool) S := rfl
theorem eIfD_S (c : En → M Bool) (a b : En → M D) (env : En) (S : Store) : eIfD c a b env S = (M.bind (c env) fun x => if x = true then a env else b env : M D) S := rfl
theorem oPart_S (o : Option (En → M D)) (env : En) (S : Store) : oPart o env S = (match o with
    | none => fun _ => M.ret none
    | some f => fun env => M.bind (f env) fun x => match x with
      | .int i => M.ret (some i)
      | _ => M.bad) env S := rfl
theorem oSl_S (a : En → M D) (lo hi : En → M (Option Int)) (env : En) (S : Store) : oSl a lo hi env S = (M.bind (a env) fun x => M.bind (lo env) fun l => M.bind (hi env) fun u => match x with
    | .lst xs => M.ret (cutD xs l u)
    | .scr ns => M.ret ((cutI ns l u).map D.int)
    | _ => M.bad : M (List D)) S := rfl
theorem eSl_S (a : En → M D) (lo hi : En → M (Option Int)) (env : En) (S : Store) : eSl a lo hi env S = (M.bind (a env) fun x => M.bind (lo env) fun l => M.bind (hi env) fun u => match x with
    | .str s => if s.length ≤ lim then M.ret (.str (cutS s l u)) else M.bad
    | _ => M.bad : M D) S := rfl
theorem eCall_S (op : List D → Option D) (fs : En → M (List D)) (env : En) (S : Store) : eCall op fs env S = (M.bind (fs env) fun ds => M.lift (op ds) : M D) S := rfl
theorem isiO_S (T : String) (a : En → M D) (env : En) (S : Store) : isiO T a env S = (M.bind (a env) fun x => M.lift ((tyN x).bind fun t => (kitB t T).map D.bl) : M D) S := rfl
theorem sNil_S  (env : En) (S : Store) : sNil  env S = (M.ret (.nx env) : M Fl) S := rfl
theorem sCons_S (f r : En → M Fl) (env : En) (S : Store) : sCons f r env S = (M.bind (f env) fun fl => match fl with
    | .nx env' => r env'
    | o => M.ret o : M Fl) S := rfl
theorem sExpr_S (a : En → M D) (env : En) (S : Store) : sExpr a env S = (liftS (a env) env fun _ => M.ret (.nx env) : M Fl) S := rfl
theorem sRet_S (a : En → M D) (env : En) (S : Store) : sRet a env S = (liftS (a env) env fun d => M.ret (.rt d) : M Fl) S := rfl
theorem sRetO_S (a : En → M (List D)) (env : En) (S : Store) : sRetO a env S = (liftS (a env) env fun d => M.ret (.rtO d) : M Fl) S := rfl
theorem sRetV_S (i : Nat) (env : En) (S : Store) : sRetV i env S = (match env[i]? with
    | some (.f d) => M.ret (.rt d)
    | some (.o xs) => M.ret (.rtO xs)
    | _ => M.bad : M Fl) S := rfl
theorem sRetN_S  (env : En) (S : Store) : sRetN  env S = (M.ret (.rt .non) : M Fl) S := rfl
theorem sIf_S (c : En → M Bool) (t u : En → M Fl) (env : En) (S : Store) : sIf c t u env S = (liftS (c env) env fun b => if b = true then t env else u env : M Fl) S := rfl
theorem sBrk_S  (env : En) (S : Store) : sBrk  env S = (M.ret (.bk env) : M Fl) S := rfl
theorem sCnt_S  (env : En) (S : Store) : sCnt  env S = (M.ret (.ct env) : M Fl) S := rfl
theorem sSet_S (i : Nat) (a : En → M D) (env : En) (S : Store) : sSet i a env S = (liftS (a env) env fun d => M.ret (.nx (env.set i (.f d))) : M Fl) S := rfl
theorem sSetO_S (i : Nat) (a : En → M (List D)) (env : En) (S : Store) : sSetO i a env S = (liftS (a env) env fun d => M.ret (.nx (env.set i (.o d))) : M Fl) S := rfl
theorem sFz_S (i : Nat) (f : En → M Fl) (env : En) (S : Store) : sFz i f env S = (f (fzE i env) : M Fl) S := rfl
theorem iL_S (a : En → M D) (env : En) (S : Store) : iL a env S = (M.bind (a env) fun x => match x with
    | .lst xs => M.ret xs
    | .scr ns => M.ret (ns.map D.int)
    | _ => M.bad : M (List D)) S := rfl
theorem iT_S (a : En → M D) (env : En) (S : Store) : iT a env S = (M.bind (a env) fun x => match x with
    | .tup xs => M.ret xs
    | _ => M.bad : M (List D)) S := rfl
theorem iS_S (a : En → M D) (env : En) (S : Store) : iS a env S = (M.bind (a env) fun x => match x with
    | .str s => M.ret (signsD s)
    | _ => M.bad : M (List D)) S := rfl
theorem iR1_S (a : En → M D) (env : En) (S : Store) : iR1 a env S = (M.bind (a env) fun x => match x with
    | .int n => if -1000000 ≤ n ∧ n ≤ 1000000 then M.ret (rng 0 n.toNat) else M.bad
    | _ => M.bad : M (List D)) S := rfl
theorem iR2_S (a b : En → M D) (env : En) (S : Store) : iR2 a b env S = (M.bind (a env) fun x => M.bind (b env) fun y => match x, y with
    | .int i, .int j => if -1000000 ≤ i ∧ i ≤ 1000000 ∧ -1000000 ≤ j ∧ j ≤ 1000000 then M.ret (rng i (j - i).toNat) else M.bad
    | _, _ => M.bad : M (List D)) S := rfl
theorem iR3_S (a b c : En → M D) (env : En) (S : Store) : iR3 a b c env S = (M.bind (a env) fun x => M.bind (b env) fun y => M.bind (c env) fun z => match x, y, z with
    | .int i, .int j, .int k => if k ≠ 0 ∧ k.natAbs < 1073741824 ∧ Builtin.Range.small i j k = true ∧ 0 ≤ Builtin.Range.rangeSize i j k then M.ret (rngC i k (Builtin.Range.rangeSize i j k).toNat) else M.bad
    | _, _, _ => M.bad : M (List D)) S := rfl
theorem sFor_S (it : En → M (List D)) (b : D → En → Option En) (body : En → M Fl) (env : En) (S : Store) : sFor it b body env S = (liftS (it env) env fun ds => forD body b ds env : M Fl) S := rfl
theorem oLc_S (it : En → M (List D)) (b : D → En → Option En) (t : En → M Bool) (elt : En → M D) (vs : List Nat) (env : En) (S : Store) : oLc it b t elt vs env S = (M.bind (it env) fun ds => lcD b t elt (wipeE env vs) ds [] : M (List D)) S := rfl
theorem tYesD_S  (env : En) (S : Store) : tYesD  env S = (M.ret true : M Bool) S := rfl
theorem onO_S (i : Nat) (k : En → List D → M Fl) (env : En) (S : Store) : onO i k env S = (match env[i]? with
    | some (.o xs) => k env xs
    | _ => M.bad : M Fl) S := rfl
theorem sApp_S (i : Nat) (a : En → M D) (env : En) (S : Store) : sApp i a env S = (onO i fun env xs => liftS (a env) env fun d => if xs.length < lim then M.ret (.nx (env.set i (.o (xs ++ [d])))) else M.bad) env S := rfl
theorem sExt_S (i : Nat) (a : En → M D) (env : En) (S : Store) : sExt i a env S = (onO i fun env xs => liftS (a env) env fun d => match d with
    | .lst ys => if xs.length + ys.length ≤ lim then M.ret (.nx (env.set i (.o (xs ++ ys)))) else M.bad
    | _ => M.bad) env S := rfl
theorem sSetI_S (i : Nat) (j a : En → M D) (env : En) (S : Store) : sSetI i j a env S = (onO i fun env xs => liftS (a env) env fun d => liftS (j env) env fun k => match k with
    | .int n => match ixN xs.length n with
      | some p => M.ret (.nx (env.set i (.o (xs.set p d))))
      | none => M.bad
    | _ => M.bad) env S := rfl
theorem eFn_S (f : Fn) (a : En → M (List D)) (env : En) (S : Store) : eFn f a env S = (M.bind (a env) fun ds => M.bind (f ds) fun r => M.ret r.d : M D) S := rfl
theorem oFn_S (f : Fn) (a : En → M (List D)) (env : En) (S : Store) : oFn f a env S = (M.bind (a env) fun ds => M.bind (f ds) fun r => match r with
    | .o xs => M.ret xs
    | .f _ => M.bad : M (List D)) S := rfl
theorem eM1_S (op : Str → D → Option D) (a b : En → M D) (env : En) (S : Store) : eM1 op a b env S = (M.bind (a env) fun x => match x with
    | .str s => M.bind (b env) fun y => M.lift (op s y)
    | _ => M.bad : M D) S := rfl
theorem oSplit_S (a b : En → M D) (env : En) (S : Store) : oSplit a b env S = (M.bind (a env) fun x => match x with
    | .str s => M.bind (b env) fun y => match y with
      | .str t => if t.length ≠ 0 ∧ s.length + 2 ≤ lim then M.ret ((Txt.split s t).map D.str) else M.bad
      | _ => M.bad
    | _ => M.bad : M (List D)) S := rfl
theorem eSlA_S (a : En → M D) (lo hi : En → M (Option Int)) (env : En) (S : Store) : eSlA a lo hi env S = (M.bind (a env) fun x => M.bind (lo env) fun l => M.bind (hi env) fun u => match x with
    | .lst xs => M.ret (.lst (cutD xs l u))
    | .scr ns => M.ret (.lst ((cutI ns l u).map D.int))
    | .str s => if s.length ≤ lim then M.ret (.str (cutS s l u)) else M.bad
    | _ => M.bad : M D) S := rfl
theorem oListF_S (a : En → M D) (env : En) (S : Store) : oListF a env S = (M.bind (a env) fun x => match x with
    | .lst xs => M.ret xs
    | .tup xs => M.ret xs
    | _ => M.bad : M (List D)) S := rfl
theorem eTupF_S (a : En → M D) (env : En) (S : Store) : eTupF a env S = (M.bind (a env) fun x => match x with
    | .lst xs => M.ret (.tup xs)
    | .tup xs => M.ret (.tup xs)
    | _ => M.bad : M D) S := rfl
theorem eIndex_S (a b : En → M D) (env : En) (S : Store) : eIndex a b env S = (M.bind (a env) fun x => match x with
    | .lst xs => M.bind (b env) fun y => if flatD y = true ∧ xs.all flatD = true then M.lift ((findF y xs).map fun j => .int (j : Nat)) else M.bad
    | _ => M.bad : M D) S := rfl
theorem iA_S (a : En → M D) (env : En) (S : Store) : iA a env S = (M.bind (a env) fun x => match x with
    | .lst xs => M.ret xs
    | .scr ns => M.ret (ns.map D.int)
    | .tup xs => M.ret xs
    | .str s => M.ret (signsD s)
    | _ => M.bad : M (List D)) S := rfl
theorem sThenFz_S (i : Nat) (f : En → M Fl) (env : En) (S : Store) : sThenFz i f env S = (M.bind (f env) fun fl => match fl with
    | .nx env' => M.ret (.nx (fzE i env'))
    | o => M.ret o : M Fl) S := rfl
theorem sUnp_S (a : En → M D) (b : D → En → Option En) (env : En) (S : Store) : sUnp a b env S = (liftS (a env) env fun d => match b d env with
    | some env' => M.ret (.nx env')
    | none => M.bad : M Fl) S := rfl
theorem eFld_S (C f : Str) (fo : En → M D) (env : En) (S : Store) : eFld C f fo env S = (M.bind (fo env) fun x => objF C x fun n ob => fvD (ob.fs.lookup f) : M D) S := rfl
theorem eFldD_S (C f : Str) (fo : En → M D) (env : En) (S : Store) : eFldD C f fo env S = (M.bind (fo env) fun x => objF C x fun n ob => fvE (ob.fs.lookup f) : M D) S := rfl
theorem sFldD_S (C f : Str) (fo fa : En → M D) (env : En) (S : Store) : sFldD C f fo fa env S = (liftS (fa env) env fun d => liftS (fo env) env fun x => objF C x fun n ob => if ob.fs.length < 1000 then fun S => .ok (.nx env) (S.set n ⟨ob.cls, putW f (.f d) ob.fs⟩) else M.bad : M Fl) S := rfl
theorem sFldO_S (C f : Str) (fo : En → M D) (fa : En → M (List D)) (env : En) (S : Store) : sFldO C f fo fa env S = (liftS (fa env) env fun d => liftS (fo env) env fun x => objF C x fun n ob => if ob.fs.length < 1000 then fun S => .ok (.nx env) (S.set n ⟨ob.cls, putW f (.o d) ob.fs⟩) else M.bad : M Fl) S := rfl
theorem sFldK_S (C f : Str) (fo : En → M D) (fa : En → M (List (Key × D))) (env : En) (S : Store) : sFldK C f fo fa env S = (liftS (fa env) env fun d => liftS (fo env) env fun x => objF C x fun n ob => if ob.fs.length < 1000 then fun S => .ok (.nx env) (S.set n ⟨ob.cls, putW f (.k d) ob.fs⟩) else M.bad : M Fl) S := rfl
theorem sFldApp_S (C f : Str) (fo fa : En → M D) (env : En) (S : Store) : sFldApp C f fo fa env S = (liftS (fo env) env fun x => fldO C f x fun n _ _ => liftS (fa env) env fun d => fldO C f (.obj n) fun n ob xs => if xs.length < lim then setB n ⟨ob.cls, putW f (.o (xs ++ [d])) ob.fs⟩ (.nx env) else M.bad : M Fl) S := rfl
theorem eFldPop_S (C f : Str) (fo fi : En → M D) (env : En) (S : Store) : eFldPop C f fo fi env S = (M.bind (fo env) fun x => fldO C f x fun n _ _ => M.bind (fi env) fun i => fldO C f (.obj n) fun n ob xs => match i with
    | .int k => match ixN xs.length k with
      | some j => match xs[j]? with
        | some d => if xs.length ≤ lim then setB n ⟨ob.cls, putW f (.o (xs.eraseIdx j)) ob.fs⟩ d else M.bad
        | none => M.bad
      | none => M.bad
    | _ => M.bad : M D) S := rfl
theorem sFldSetI_S (C f : Str) (fo fi fa : En → M D) (env : En) (S : Store) : sFldSetI C f fo fi fa env S = (liftS (fa env) env fun d => liftS (fo env) env fun x => fldO C f x fun n _ _ => liftS (fi env) env fun i => fldO C f (.obj n) fun n ob xs => match i with
    | .int k => match ixN xs.length k with
      | some j => setB n ⟨ob.cls, putW f (.o (xs.set j d)) ob.fs⟩ (.nx env)
      | none => M.bad
    | _ => M.bad : M Fl) S := rfl
theorem sFldRot_S (C f : Str) (fo fi : En → M D) (env : En) (S : Store) : sFldRot C f fo fi env S = (liftS (fo env) env fun x => fldO C f x fun n _ _ => liftS (eFldPop C f fo fi env) env fun d => fldO C f (.obj n) fun n ob xs => if xs.length < lim then setB n ⟨ob.cls, putW f (.o (xs ++ [d])) ob.fs⟩ (.nx env) else M.bad : M Fl) S := rfl
theorem eMt_S (C mt : Str) (fo : En → M D) (f : Fn) (fs : En → M (List D)) (env : En) (S : Store) : eMt C mt fo f fs env S = (M.bind (fo env) fun x => objF C x fun _ ob => if (ob.fs.lookup mt).isNone = true then M.bind (fs env) fun ds => M.bind (f (x :: ds)) fun r => M.ret r.d else M.bad : M D) S := rfl
theorem oMt_S (C mt : Str) (fo : En → M D) (f : Fn) (fs : En → M (List D)) (env : En) (S : Store) : oMt C mt fo f fs env S = (M.bind (fo env) fun x => objF C x fun _ ob => if (ob.fs.lookup mt).isNone = true then M.bind (fs env) fun ds => M.bind (f (x :: ds)) fun r => match r with
      | .o xs => M.ret xs
      | .f _ => M.bad
    else M.bad : M (List D)) S := rfl
theorem eMk_S (C : Str) (f : Fn) (fs : En → M (List D)) (env : En) (S : Store) : eMk C f fs env S = (M.bind (fs env) fun ds => mkO C f ds : M D) S := rfl
theorem sRaise_S (c : Str) (env : En) (S : Store) : sRaise c env S = (M.ret (.ex c env) : M Fl) S := rfl
theorem sTry_S (isa : Str → Option Bool) (fb fs : En → M Fl) (env : En) (S : Store) : sTry isa fb fs env S = (M.bind (fb env) fun fl => match fl with
    | .ex c env' => match isa c with
      | some true => noEx (fs env')
      | some false => M.ret (.ex c env')
      | none => M.bad
    | o => M.ret o : M Fl) S := rfl
theorem sTryAs_S (i : Nat) (isa : Str → Option Bool) (fb : En → M Fl) (fs : Addr → Str → En → M Fl) (env : En) (S : Store) : sTryAs i isa fb fs env S = (M.bind (fb env) fun fl => match fl with
    | .ex c env' => match isa c with
      | some true => fun S => anyA fun a => dropS i (noEx (fs a c (env'.set i (.x a)))) S
      | some false => M.ret (.ex c env')
      | none => M.bad
    | o => M.ret o : M Fl) S := rfl
theorem eIsE_S (i : Nat) (a : Addr) (o : Option Bool) (env : En) (S : Store) : eIsE i a o env S = (match env[i]? with
    | some (.x a') => if a' = a then M.lift (o.map D.bl) else M.bad
    | _ => M.bad : M D) S := rfl
theorem eFnX_S (i : Nat) (a : Addr) (r : M Res) (env : En) (S : Store) : eFnX i a r env S = (match env[i]? with
    | some (.x a') => if a' = a then M.bind (quiet r) fun z => M.ret z.d else M.bad
    | _ => M.bad : M D) S := rfl
theorem iFld_S (C f : Str) (fo : En → M D) (env : En) (S : Store) : iFld C f fo env S = (M.bind (fo env) fun x => fldO C f x fun _ _ xs => M.ret xs : M (List D)) S := rfl
theorem kNil_S  (env : En) (S : Store) : kNil  env S = (M.ret [] : M (List (Key × D))) S := rfl
theorem eNewL_S (f : En → M (List D)) (env : En) (S : Store) : eNewL f env S = (M.bind (f env) fun xs => fun S => .ok (.obj S.length) (S ++ [rL xs]) : M D) S := rfl
theorem eNewK_S (f : En → M (List (Key × D))) (env : En) (S : Store) : eNewK f env S = (M.bind (f env) fun xs => fun S => .ok (.obj S.length) (S ++ [rK xs]) : M D) S := rfl
theorem eRd_S (fo : En → M D) (env : En) (S : Store) : eRd fo env S = (M.bind (fo env) rawV : M D) S := rfl
theorem eGet1_S (fa fb : En → M D) (env : En) (S : Store) : eGet1 fa fb env S = (M.bind (fa env) fun x => match x with
    | .dct kvs => M.bind (fb env) fun y => M.lift (getN kvs y)
    | _ => M.bad : M D) S := rfl
theorem eGet2_S (fa fb fc : En → M D) (env : En) (S : Store) : eGet2 fa fb fc env S = (M.bind (fa env) fun x => match x with
    | .dct kvs => M.bind (fb env) fun y => M.bind (fc env) fun z => match keyD y with
      | some k => M.ret ((getK kvs k).getD z)
      | none => M.bad
    | _ => M.bad : M D) S := rfl
theorem sRPut_S (fo fk fa : En → M D) (env : En) (S : Store) : sRPut fo fk fa env S = (liftS (fa env) env fun v => liftS (fo env) env fun x => liftS (fk env) env fun y => onK x fun n kvs => match keyD y with
    | some k => if kvs.length < lim then setB n (rK (putD kvs k v)) (.nx env) else M.bad
    | none => M.bad : M Fl) S := rfl
theorem eRPop_S (fo fk : En → M D) (env : En) (S : Store) : eRPop fo fk env S = (M.bind (fo env) fun x => onK x fun _ _ => M.bind (fk env) fun y => onK x fun n kvs => match keyD y with
    | some k => match getK kvs k with
      | some d => setB n (rK (dropD kvs k)) d
      | none => M.bad
    | none => M.bad : M D) S := rfl
theorem sRApp_S (fo fa : En → M D) (env : En) (S : Store) : sRApp fo fa env S = (liftS (fo env) env fun x => onL x fun _ _ => liftS (fa env) env fun d => onL x fun n xs => if xs.length < lim then setB n (rL (xs ++ [d])) (.nx env) else M.bad : M Fl) S := rfl
theorem eRPopL_S (fo fi : En → M D) (env : En) (S : Store) : eRPopL fo fi env S = (M.bind (fo env) fun x => onL x fun _ _ => M.bind (fi env) fun i => onL x fun n xs => match i with
    | .int k => match ixN xs.length k with
      | some j => match xs[j]? with
        | some d => if xs.length ≤ lim then setB n (rL (xs.eraseIdx j)) d else M.bad
        | none => M.bad
      | none => M.bad
    | _ => M.bad : M D) S := rfl
theorem sRSetI_S (fo fi fa : En → M D) (env : En) (S : Store) : sRSetI fo fi fa env S = (liftS (fa env) env fun d => liftS (fo env) env fun x => liftS (fi env) env fun i => onL x fun n xs => match i with
    | .int k => match ixN xs.length k with
      | some j => setB n (rL (xs.set j d)) (.nx env)
      | none => M.bad
    | _ => M.bad : M Fl) S := rfl
theorem eK_S (f : En → M (List (Key × D))) (env : En) (S : Store) : eK f env S = (M.bind (f env) fun xs => M.ret (.dct xs) : M D) S := rfl
theorem sForR_S (n : Nat) (fo : En → M D) (b : D → En → Option En) (body : En → M Fl) (env : En) (S : Store) : sForR n fo b body env S = (liftS (fo env) env fun x => onL x fun _ _ => forR body b x n 0 env : M Fl) S := rfl
theorem pNil_S  (env : En) (S : Store) : pNil  env S = (M.ret [] : M (List (Key × D))) S := rfl
theorem pCons_S (k : En → M D) (f : En → M D) (r : En → M (List (Key × D))) (env : En) (S : Store) : pCons k f r env S = (M.bind (k env) fun y => M.bind (f env) fun d => M.bind (r env) fun ds => match keyD y with
    | some q => M.ret ((q, d) :: ds)
    | none => M.bad : M (List (Key × D))) S := rfl
theorem kDisp_S (f : En → M (List (Key × D))) (env : En) (S : Store) : kDisp f env S = (M.bind (f env) fun kvs => if kvs.length ≤ 15 then M.ret (mergeD [] kvs) else M.bad : M (List (Key × D))) S := rfl
theorem sPar2_S (i j : Nat) (a : En → M (List D)) (env : En) (S : Store) : sPar2 i j a env S = (liftS (a env) env fun ds => match ds with
    | [x, y] => M.ret (.nx ((env.set i (.f x)).set j (.f y)))
    | _ => M.bad : M Fl) S := rfl
theorem sPar3_S (i j l : Nat) (a : En → M (List D)) (env : En) (S : Store) : sPar3 i j l a env S = (liftS (a env) env fun ds => match ds with
    | [x, y, z] => M.ret (.nx (((env.set i (.f x)).set j (.f y)).set l (.f z)))
    | _ => M.bad : M Fl) S := rfl
theorem sRem_S (i : Nat) (a : En → M D) (env : En) (S : Store) : sRem i a env S = (onO i fun env xs => liftS (a env) env fun d => if shpD d = true ∧ shpD (.lst xs) = true then (match findP (toPy d) (toPyA xs) with
    | some j => M.ret (.nx (env.set i (.o (xs.eraseIdx j))))
    | none => M.bad) else M.bad) env S := rfl
theorem sClr_S (i : Nat) (env : En) (S : Store) : sClr i env S = (onO i fun env xs => M.ret (.nx (env.set i (.o [])))) env S := rfl
theorem iRv_S (a : En → M D) (env : En) (S : Store) : iRv a env S = (M.bind (a env) fun x => match x with
    | .lst xs => M.ret xs.reverse
    | _ => M.bad : M (List D)) S := rfl
theorem eMaxD_S (fa fc : En → M D) (env : En) (S : Store) : eMaxD fa fc env S = (M.bind (fa env) fun x => M.bind (fc env) fun y => match x with
    | .lst xs => M.lift ((intsD xs).map fun ns => match greatest ns with
      | some z => .int z
      | none => y)
    | _ => M.bad : M D) S := rfl
theorem oSortP_S (fa : En → M D) (env : En) (S : Store) : oSortP fa env S = (M.bind (fa env) fun x => match x with
    | .lst xs => M.lift ((prsD xs).map fun ps => (sortP ps).map prE)
    | _ => M.bad : M (List D)) S := rfl
theorem eUp_S (fa : En → M D) (env : En) (S : Store) : eUp fa env S = (M.bind (fa env) fun x => match x with
    | .str s => if s.length ≤ lim then M.ret (.str (Txt.upper s)) else M.bad
    | _ => M.bad : M D) S := rfl
theorem sRClr_S (fo : En → M D) (env : En) (S : Store) : sRClr fo env S = (liftS (fo env) env fun x => onL x fun n _ => setB n (rL []) (.nx env) : M Fl) S := rfl
theorem sRRem_S (fo fa : En → M D) (env : En) (S : Store) : sRRem fo fa env S = (liftS (fo env) env fun x => onL x fun _ _ => liftS (fa env) env fun d => onL x fun n xs => if shpD d = true ∧ shpD (.lst xs) = true then (match findP (toPy d) (toPyA xs) with
    | some j => setB n (rL (xs.eraseIdx j)) (.nx env)
    | none => M.bad) else M.bad : M Fl) S := rfl
theorem iKy_S (fo : En → M D) (env : En) (S : Store) : iKy fo env S = (M.bind (fo env) fun x => onF x fun kvs => M.ret (kvs.map fun kv => keyV kv.1) : M (List D)) S := rfl
theorem eIxF_S (fo fi : En → M D) (env : En) (S : Store) : eIxF fo fi env S = (M.bind (fo env) fun x => M.bind (fi env) fun y => onF x fun kvs => M.lift ((keyD y).bind (getK kvs)) : M D) S := rfl
theorem tEqE_S (fa : En → M D) (env : En) (S : Store) : tEqE fa env S = (M.bind (fa env) fun x => onK x fun _ kvs => M.ret kvs.isEmpty : M Bool) S := rfl
theorem kCpy_S (fa : En → M D) (env : En) (S : Store) : kCpy fa env S = (M.bind (fa env) fun x => match x with
    | .dct kvs => M.ret kvs
    | _ => M.bad : M (List (Key × D))) S := rfl
theorem oKeysF_S (fa : En → M D) (env : En) (S : Store) : oKeysF fa env S = (M.bind (fa env) fun x => match x with
    | .dct kvs => M.ret (kvs.map fun kv => keyV kv.1)
    | _ => M.bad : M (List D)) S := rfl
theorem kCpyK_S (fa : En → M D) (env : En) (S : Store) : kCpyK fa env S = (M.bind (fa env) fun x => onK x fun _ kvs => M.ret kvs : M (List (Key × D))) S := rfl
theorem eEqKK_S (fa fb : En → M D) (env : En) (S : Store) : eEqKK fa fb env S = (M.bind (fa env) fun x => M.bind (fb env) fun y => onK x fun _ kvs => onK y fun _ ls => M.lift ((eqKK kvs ls).map D.bl) : M D) S := rfl
theorem oValsK_S (fa : En → M D) (env : En) (S : Store) : oValsK fa env S = (M.bind (fa env) fun x => onK x fun _ kvs => M.ret (kvs.map (·.2)) : M (List D)) S := rfl
theorem eIxK_S (fo fi : En → M D) (env : En) (S : Store) : eIxK fo fi env S = (M.bind (fo env) fun x => M.bind (fi env) fun y => onK x fun _ kvs => M.lift ((keyD y).bind (getK kvs)) : M D) S := rfl
theorem eNeKK_S (fa fb : En → M D) (env : En) (S : Store) : eNeKK fa fb env S = (M.bind (fa env) fun x => M.bind (fb env) fun y => onK x fun _ kvs => onK y fun _ ls => M.lift ((eqKK kvs ls).map fun b => D.bl (!b)) : M D) S := rfl
theorem tEqKK_S (fa fb : En → M D) (env : En) (S : Store) : tEqKK fa fb env S = (M.bind (fa env) fun x => M.bind (fb env) fun y => onK x fun _ kvs => onK y fun _ ls => M.lift (eqKK kvs ls) : M Bool) S := rfl
theorem tNeKK_S (fa fb : En → M D) (env : En) (S : Store) : tNeKK fa fb env S = (M.bind (fa env) fun x => M.bind (fb env) fun y => onK x fun _ kvs => onK y fun _ ls => M.lift ((eqKK kvs ls).map fun b => !b) : M Bool) S := rfl
theorem objF_S {α : Type} (C : Str) (n : Nat) (k : Nat → Ob → M α) (S : Store) : objF C (.obj n) k S = (match S[n]? with
    | some ob => if ob.cls = C then k n ob S else .bad
    | none => .bad) := rfl
theorem fldO_S {α : Type} (C f : Str) (x : D) (k : Nat → Ob → List D → M α) (S : Store) : fldO C f x k S = objF C x (fun n ob => match ob.fs.lookup f with
    | some (.o xs) => k n ob xs
    | _ => M.bad) S := rfl
theorem setB_S {α : Type} (n : Nat) (ob : Ob) (a : α) (S : Store) : setB n ob a S = .ok a (S.set n ob) := rfl
theorem mkO_S (C : Str) (f : Fn) (ds : List D) (S : Store) : mkO C f ds S = bindR (f (.obj S.length :: ds) (S ++ [⟨C, []⟩])) (fun r => match r with
  | .f .non => M.ret (.obj S.length)
  | _ => M.bad) := rfl
theorem noEx_S (c : M Fl) (S : Store) : noEx c S = bindR (c S) (fun fl => match fl with
  | .ex _ _ => M.bad
  | o => M.ret o) := rfl
theorem dropS_S (i : Nat) (c : M Fl) (S : Store) : dropS i c S = bindR (c S) (fun fl => match fl with
  | .nx env => M.ret (.nx (env.set i .u))
  | .bk env => M.ret (.bk (env.set i .u))
  | .ct env => M.ret (.ct (env.set i .u))
  | o => M.ret o) := rfl
theorem fnX_S (n : Nat) (dn : Addr → Str → En → M Fl) (a : Addr) (c : Str) (S : Store) : fnX n dn a c S = (M.bind (quiet (dn a c (.x a :: List.replicate (n - 1) .u))) fun fl => match fl with
  | .nx _ => M.ret (.f .non)
  | .rt d => M.ret (.f d)
  | .rtO xs => M.ret (.o xs)
  | _ => M.bad : M Res) S := rfl
theorem fnD_S (n : Nat) (body : En → M Fl) (ds : List D) (S : Store) : fnD n body ds S = (M.bind (quiet (body (initE n ds))) fun fl => match fl with
  | .nx _ => M.ret (.f .non)
  | .rt d => M.ret (.f d)
  | .rtO xs => M.ret (.o xs)
  | .ex c _ => M.raise c
  | _ => M.bad) S := rfl
end Dn

namespace Dn
open PySem L2 PyProof.Rows
/-! ### loops and comprehensions, with the store applied -/
theorem lcD_test {α : Type} {b : D → En → Option En} {t : En → M Bool} {elt : En → M D} {env : En} {S : Store} (enc : α → D) (p : α → Bool) (f : α → D) : ∀ (xs : List α) (acc : List D),
    (∀ x ∈ xs, ∃ env1, b (enc x) env = some env1 ∧ t env1 S = .ok (p x) S ∧ (p x = true → elt env1 S = .ok (f x) S)) → acc.length + xs.length ≤ lim → lcD b t elt env (xs.map enc) acc S = .ok (acc ++ (xs.filter p).map f) S
  | [], acc, _, _ => by simp [lcD, M.ret]
  | x :: xs, acc, h, hl => by
    obtain ⟨env1, h1, h2, h3⟩ := h x List.mem_cons_self
    have hl' : acc.length + (xs.length + 1) ≤ lim := by simpa using hl
    rw [List.map_cons]
    unfold lcD
    rw [h1]
    show M.bind _ _ S = _
    rw [bind_ok (quiet_ok h2)]
    cases e : p x with
    | false =>
      rw [if_neg (by simp), lcD_test enc p f xs acc (fun d hd => h d (List.mem_cons_of_mem _ hd)) (by omega), List.filter_cons, if_neg (by rw [e]; simp)]
    | true =>
      rw [if_pos rfl, bind_ok (quiet_ok (h3 e))]
      rw [if_pos (show acc.length < lim by omega), lcD_test enc p f xs (acc ++ [f x]) (fun d hd => h d (List.mem_cons_of_mem _ hd)) (by simp; omega), List.filter_cons, if_pos e]
      simp
theorem lcD_all {α : Type} {b : D → En → Option En} {elt : En → M D} {env : En} {S : Store} (xs : List α) (enc : α → D) (f : α → D) (hl : xs.length ≤ lim) (h : ∀ x ∈ xs, ∃ env1, b (enc x) env = some env1 ∧ elt env1 S = .ok (f x) S) : lcD b tYesD elt env (xs.map enc) [] S = .ok (xs.map f) S := by
  rw [lcD_test enc (fun _ => true) f xs [] (fun x hx => by
    obtain ⟨e, h1, h2⟩ := h x hx
    exact ⟨e, h1, rfl, fun _ => h2⟩) (by simpa using hl), List.filter_eq_self.mpr (fun _ _ => rfl)]
  rfl
theorem lcD_flt {α : Type} {b : D → En → Option En} {t : En → M Bool} {elt : En → M D} {env : En} {S : Store} (xs : List α) (enc : α → D) (p : α → Bool) (f : α → D) (hl : xs.length ≤ lim) (h : ∀ x ∈ xs, ∃ env1, b (enc x) env = some env1 ∧ t env1 S = .ok (p x) S ∧ (p x = true → elt env1 S = .ok (f x) S)) : lcD b t elt env (xs.map enc) [] S = .ok ((xs.filter p).map f) S := by
  rw [lcD_test enc p f xs [] h (by simpa using hl)]
  simp
/-- a loop with what stays true of slots and store; it may leave with an answer -/
theorem forD_inv {α : Type} {body : En → M Fl} {b : D → En → Option En} (enc : α → D) (I : List α → En → Store → Prop) (Post : Fl → Store → Prop)
    (hd : ∀ env S, I [] env S → Post (.nx env) S)
    (hs : ∀ x xs env S, I (x :: xs) env S → ∃ env1, b (enc x) env = some env1 ∧ ∃ fl S', body env1 S = .ok fl S' ∧ match fl with
      | .nx e => I xs e S'
      | .ct e => I xs e S'
      | .bk e => Post (.nx e) S'
      | o => Post o S') : ∀ xs env S, I xs env S → ∃ fl S', forD body b (xs.map enc) env S = .ok fl S' ∧ Post fl S'
  | [], env, S, h => ⟨_, _, rfl, hd env S h⟩
  | x :: xs, env, S, h => by
    obtain ⟨env1, h1, fl, S', h2, h3⟩ := hs x xs env S h
    rw [List.map_cons]
    unfold forD
    rw [h1]
    show ∃ fl S', M.bind _ _ S = _ ∧ _
    rw [bind_ok h2]
    cases fl with
    | nx e => exact forD_inv enc I Post hd hs xs e S' h3
    | ct e => exact forD_inv enc I Post hd hs xs e S' h3
    | bk e => exact ⟨_, _, rfl, h3⟩
    | rt d => exact ⟨_, _, rfl, h3⟩
    | rtO d => exact ⟨_, _, rfl, h3⟩
    | ex c e => exact ⟨_, _, rfl, h3⟩
/-- a loop that folds over known states -/
theorem forD_foldS {α σ : Type} {body : En → M Fl} {b : D → En → Option En} (enc : α → D) (ev : σ → En) (st : σ → Store) (step : σ → α → σ) (xs : List α)
    (h : ∀ s, ∀ x ∈ xs, ∃ env1, b (enc x) (ev s) = some env1 ∧ (body env1 (st s) = .ok (.nx (ev (step s x))) (st (step s x)) ∨ body env1 (st s) = .ok (.ct (ev (step s x))) (st (step s x)))) :
    ∀ s, forD body b (xs.map enc) (ev s) (st s) = .ok (.nx (ev (xs.foldl step s))) (st (xs.foldl step s)) := by
  induction xs with
  | nil => intro s; rfl
  | cons x xs ih =>
    intro s
    obtain ⟨e, h1, h2⟩ := h s x List.mem_cons_self
    rw [List.map_cons]
    unfold forD
    rw [h1]
    show M.bind (body e) _ _ = _
    rcases h2 with h2 | h2
    · rw [bind_ok h2]
      exact ih (fun s y hy => h s y (List.mem_cons_of_mem _ hy)) _
    · rw [bind_ok h2]
      exact ih (fun s y hy => h s y (List.mem_cons_of_mem _ hy)) _
/-- a search: the loop leaves with the answer, or goes through -/
theorem forD_seek {α : Type} {body : En → M Fl} {b : D → En → Option En} {S : Store} (enc : α → D) (hit : α → Option D) (I : En → Prop) (xs : List α) (env : En) (i : I env) (h : ∀ env, I env → ∀ x ∈ xs, ∃ env1, b (enc x) env = some env1 ∧ match hit x with
      | some d => body env1 S = .ok (.rt d) S
      | none => ∃ env2, (body env1 S = .ok (.nx env2) S ∨ body env1 S = .ok (.ct env2) S) ∧ I env2) :
    match xs.findSome? hit with
    | some d => forD body b (xs.map enc) env S = .ok (.rt d) S
    | none => ∃ env', I env' ∧ forD body b (xs.map enc) env S = .ok (.nx env') S := by
  induction xs generalizing env with
  | nil => exact ⟨env, i, rfl⟩
  | cons x xs ih =>
    obtain ⟨e, h1, h2⟩ := h env i x List.mem_cons_self
    rw [List.map_cons]
    unfold forD
    rw [h1]
    cases hx : hit x with
    | some d =>
      rw [hx] at h2
      rw [List.findSome?_cons, hx]
      show M.bind (body e) _ S = _
      rw [bind_ok h2]
      rfl
    | none =>
      rw [hx] at h2
      obtain ⟨env2, h3, h4⟩ := h2
      rw [List.findSome?_cons, hx]
      have ih := ih env2 h4 fun env i y hy => h env i y (List.mem_cons_of_mem _ hy)
      have e2 : M.bind (body e) (fun fl => match fl with
        | .nx e => forD body b (xs.map enc) e
        | .ct e => forD body b (xs.map enc) e
        | .bk e => M.ret (.nx e)
        | o => M.ret o) S = forD body b (xs.map enc) env2 S := by
        rcases h3 with h3 | h3 <;> rw [bind_ok h3]
      cases hq : xs.findSome? hit with
      | some d => rw [hq] at ih; exact e2.trans ih
      | none =>
        rw [hq] at ih
        obtain ⟨e', i', q⟩ := ih
        exact ⟨e', i', e2.trans q⟩
end Dn

namespace Dn
open PySem L2 PyProof.Rows
/-! ### plain laws, continued -/
def sgn (c : Nat) : D := .str ⟨#[c]⟩
theorem signs_sgn (l : List Nat) : signsD (tx l) = l.map sgn := rfl
theorem strsD_sgn (l : List Nat) : strsD (l.map sgn) = some (l.map fun c => tx [c]) := by
  have := strsD_map (l.map fun c => tx [c])
  rw [List.map_map] at this
  exact this
theorem flat_one (l : List Nat) : (l.map fun c => [c]).flatten = l := by
  induction l with
  | nil => rfl
  | cons c r ih => simp [ih]
theorem sum_one (l : List Nat) : ((l.map fun c => tx [c]).map (·.length)).sum = l.length := by
  induction l with
  | nil => rfl
  | cons c r ih =>
    simp only [List.map_cons, List.sum_cons, ih, List.length_cons]
    show 1 + r.length = _
    omega
/-- signs joined give the text -/
theorem join_sgn {s : Str} (hs : s = tx []) (l : List Nat) (hl : l.length ≤ lim) : joinO s (.lst (l.map sgn)) = some (.str (tx l)) := by
  subst hs
  show ((strsD (l.map sgn)).bind _) = _
  rw [strsD_sgn]
  show (if ((l.map fun c => tx [c]).map (·.length)).sum + (l.map fun c => tx [c]).length * (tx []).length ≤ lim then some (D.str (Txt.join (tx []) (l.map fun c => tx [c]))) else none) = _
  rw [sum_one, if_pos (by rw [tx_len]; simpa using hl)]
  have := join_tx (l.map fun c => [c])
  rw [List.map_map, flat_one] at this
  exact congrArg (fun x => some (D.str x)) this
theorem sIx_nn (n d : Nat) (k : Int) (h : 0 ≤ k) : HT.sIx n d (some k) = min k.toNat n := by
  show (if k < 0 then _ else _) = _
  rw [if_neg (by omega)]
/-- a slice of a list from one place on -/
theorem cutI_nn (xs : List Int) (a b : Int) (ha : 0 ≤ a) (hb : 0 ≤ b) : cutI xs (some a) (some b) = (xs.take b.toNat).drop a.toNat := by
  unfold cutI
  rw [sIx_nn _ _ _ ha, sIx_nn _ _ _ hb]
  apply List.ext_getElem?
  intro i
  simp only [List.getElem?_take, List.getElem?_drop]
  by_cases h1 : a.toNat ≤ xs.length
  · rw [Nat.min_eq_left h1]
    by_cases h2 : b.toNat ≤ xs.length
    · rw [Nat.min_eq_left h2]
      by_cases h3 : i < b.toNat - a.toNat
      · rw [if_pos h3, if_pos (by omega)]
      · rw [if_neg h3, if_neg (by omega)]
    · rw [Nat.min_eq_right (by omega)]
      by_cases h3 : i < xs.length - a.toNat
      · rw [if_pos h3, if_pos (by omega)]
      · rw [if_neg h3]
        split
        · rw [List.getElem?_eq_none (by omega)]
        · rfl
  · rw [show min a.toNat xs.length = xs.length by omega]
    rw [List.getElem?_eq_none (show xs.length ≤ a.toNat + i by omega), List.getElem?_eq_none (show xs.length ≤ xs.length + i by omega)]
    split <;> split <;> rfl
theorem cutI_len (xs : List Int) (a b : Int) (ha : 0 ≤ a) (hb : 0 ≤ b) : (cutI xs (some a) (some b)).length ≤ (b - a).toNat := by
  rw [cutI_nn _ _ _ ha hb, List.length_drop, List.length_take]
  omega
theorem cutI_le (xs : List Int) (a b : Option Int) : (cutI xs a b).length ≤ xs.length := by
  unfold cutI
  rw [List.length_take, List.length_drop]
  omega
theorem cutI_to (xs : List Int) (a : Int) (ha : 0 ≤ a) : cutI xs (some a) none = xs.drop a.toNat := by
  unfold cutI
  rw [sIx_nn _ _ _ ha]
  show (xs.drop (min a.toNat xs.length)).take (xs.length - min a.toNat xs.length) = _
  by_cases h : a.toNat ≤ xs.length
  · rw [Nat.min_eq_left h, List.take_of_length_le (by simp)]
  · rw [Nat.min_eq_right (by omega), List.drop_eq_nil_of_le (Nat.le_refl _), List.drop_eq_nil_of_le (by omega)]
    simp
theorem cutI_from (xs : List Int) (b : Int) (hb : 0 ≤ b) : cutI xs none (some b) = xs.take b.toNat := by
  unfold cutI
  rw [sIx_nn _ _ _ hb]
  show (xs.drop 0).take (min b.toNat xs.length - 0) = _
  rw [List.drop_zero, Nat.sub_zero]
  by_cases h : b.toNat ≤ xs.length
  · rw [Nat.min_eq_left h]
  · rw [Nat.min_eq_right (by omega), List.take_of_length_le (Nat.le_refl _), List.take_of_length_le (by omega)]
theorem ixN_nn (n : Nat) (i : Int) (h : 0 ≤ i) (h2 : i < n) : ixN n i = some i.toNat := by
  unfold ixN
  rw [if_pos h, if_pos h2]
theorem setD_map {α : Type} (f : α → D) (l : List α) (i : Nat) (a : α) : (l.map f).set i (f a) = (l.set i a).map f := by
  rw [List.map_set]
theorem all_set {α : Type} {l : List α} {P : α → Bool} {a : α} (i : Nat) (h : l.all P = true) (ha : P a = true) : (l.set i a).all P = true := by
  rw [List.all_eq_true] at h ⊢
  intro x hx
  rcases List.mem_or_eq_of_mem_set hx with h1 | h1
  · exact h x h1
  · rw [h1]; exact ha
/-- a place in a list -/
theorem ix_lst {xs : List D} {i : Int} (h : 0 ≤ i) {d : D} (hd : xs[i.toNat]? = some d) : ixD (.lst xs) (.int i) = some d := by
  obtain ⟨j, rfl⟩ : ∃ j : Nat, i = j := ⟨i.toNat, by omega⟩
  exact atI_nat (by simpa using hd)
theorem ix_tup {xs : List D} {i : Int} (h : 0 ≤ i) {d : D} (hd : xs[i.toNat]? = some d) : ixD (.tup xs) (.int i) = some d := by
  obtain ⟨j, rfl⟩ : ∃ j : Nat, i = j := ⟨i.toNat, by omega⟩
  exact atI_nat (by simpa using hd)
theorem ix_scr {xs : List Int} {i : Int} (h : 0 ≤ i) {d : Int} (hd : xs[i.toNat]? = some d) : ixD (.scr xs) (.int i) = some (.int d) := by
  obtain ⟨j, rfl⟩ : ∃ j : Nat, i = j := ⟨i.toNat, by omega⟩
  show (atI xs (j : Int)).map D.int = _
  rw [atI_nat (show xs[j]? = some d by simpa using hd)]
  rfl
theorem rng_len (lo : Int) (n : Nat) : (rng lo n).length = n := by simp [rng]
end Dn

namespace Dn
open PySem L2 PyProof.Rows
/-! ### texts that are written out, fields by name -/
theorem ofString_inj (a b : String) : (Str.ofString a = Str.ofString b) = (a = b) := by
  apply propext
  constructor
  · intro h
    rw [Str.ofString_eq_toList, Str.ofString_eq_toList] at h
    have h := congrArg (fun s : Str => s.cps.toList) h
    have h : a.toList.map Char.toNat = b.toList.map Char.toNat := by simpa using h
    refine String.toList_inj.mp ?_
    refine List.map_inj_right (fun x y e => ?_) |>.mp h
    exact Char.toNat_inj.mp e
  · intro h; rw [h]
theorem look_S {β : Type} (g k : Str) (x : β) (r : List (Str × β)) : List.lookup g ((k, x) :: r) = if g = k then some x else List.lookup g r := by
  by_cases h : g = k
  · subst h; rw [look_eq, if_pos rfl]
  · rw [look_ne _ _ h, if_neg h]
theorem isSome_some' {α : Type} (a : α) : (some a).isNone = false := rfl
/-- two objects of a store -/
theorem set_get_ne {S : Store} {n k : Nat} {ob : Ob} (h : n ≠ k) : (S.set n ob)[k]? = S[k]? := List.getElem?_set_ne h
theorem set_get {S : Store} {n : Nat} {ob ob' : Ob} (h : S[n]? = some ob') : (S.set n ob)[n]? = some ob := List.getElem?_set_self (List.getElem?_eq_some_iff.mp h).1
theorem set_set (S : Store) (n : Nat) (a b : Ob) : (S.set n a).set n b = S.set n b := by
  apply List.ext_getElem?
  intro i
  by_cases h : n = i
  · subst h
    by_cases hl : n < S.length
    · rw [List.getElem?_set_self (by simpa using hl), List.getElem?_set_self hl]
    · rw [List.getElem?_eq_none (by simp; omega), List.getElem?_eq_none (by simp; omega)]
  · rw [List.getElem?_set_ne h, List.getElem?_set_ne h, List.getElem?_set_ne h]
theorem set_same {S : Store} {n : Nat} {ob : Ob} (h : S[n]? = some ob) : S.set n ob = S := by
  apply List.ext_getElem?
  intro i
  by_cases c : n = i
  · subst c; rw [set_get h, h]
  · rw [List.getElem?_set_ne c]
/-! ### loops that stand in a goal: generalize hr : forD _ _ _ _ _ = r -/
theorem seek_of {α : Type} {body : En → M Fl} {b : D → En → Option En} {S : Store} {enc : α → D} {xs : List α} {env : En} {r : R Fl} (hr : forD body b (xs.map enc) env S = r) (hit : α → Option D) (I : En → Prop) (i : I env) (h : ∀ env, I env → ∀ x ∈ xs, ∃ env1, b (enc x) env = some env1 ∧ match hit x with
      | some d => body env1 S = .ok (.rt d) S
      | none => ∃ env2, (body env1 S = .ok (.nx env2) S ∨ body env1 S = .ok (.ct env2) S) ∧ I env2) :
    (∃ d, xs.findSome? hit = some d ∧ r = .ok (.rt d) S) ∨ (xs.findSome? hit = none ∧ ∃ env', I env' ∧ r = .ok (.nx env') S) := by
  subst hr
  have key := forD_seek (body := body) (b := b) (S := S) enc hit I xs env i h
  cases e : xs.findSome? hit with
  | some d => rw [e] at key; exact .inl ⟨d, rfl, key⟩
  | none =>
    rw [e] at key
    obtain ⟨env', i', q⟩ := key
    exact .inr ⟨rfl, env', i', q⟩
theorem inv_of {α : Type} {body : En → M Fl} {b : D → En → Option En} {S : Store} {enc : α → D} {xs : List α} {env : En} {r : R Fl} (hr : forD body b (xs.map enc) env S = r) (I : List α → En → Store → Prop) (Post : Fl → Store → Prop) (h0 : I xs env S) (hd : ∀ env S, I [] env S → Post (.nx env) S)
    (hs : ∀ x xs env S, I (x :: xs) env S → ∃ env1, b (enc x) env = some env1 ∧ ∃ fl S', body env1 S = .ok fl S' ∧ match fl with
      | .nx e => I xs e S'
      | .ct e => I xs e S'
      | .bk e => Post (.nx e) S'
      | o => Post o S') : ∃ fl S', r = .ok fl S' ∧ Post fl S' := by
  subst hr
  exact forD_inv enc I Post hd hs xs env S h0
theorem fold_of {α σ : Type} {body : En → M Fl} {b : D → En → Option En} {enc : α → D} {xs : List α} {env : En} {S : Store} {r : R Fl} (hr : forD body b (xs.map enc) env S = r) (ev : σ → En) (st : σ → Store) (step : σ → α → σ) (s : σ) (he : env = ev s) (hS : S = st s)
    (h : ∀ s, ∀ x ∈ xs, ∃ env1, b (enc x) (ev s) = some env1 ∧ (body env1 (st s) = .ok (.nx (ev (step s x))) (st (step s x)) ∨ body env1 (st s) = .ok (.ct (ev (step s x))) (st (step s x)))) :
    r = .ok (.nx (ev (xs.foldl step s))) (st (xs.foldl step s)) := by
  subst hr he hS
  exact forD_foldS enc ev st step xs h s
theorem find_range {β : Type} {f : Nat → Option β} {n : Nat} {b : β} (h : (List.range n).findSome? f = some b) : ∃ i, i < n ∧ f i = some b ∧ ∀ j, j < i → f j = none := by
  obtain ⟨l1, a, l2, e, h1, h2⟩ := List.findSome?_eq_some_iff.mp h
  have g : ∀ k, k < l1.length + 1 → (l1 ++ [a])[k]? = some k := fun k hk => by
    have e2 : l1 ++ [a] ++ l2 = List.range n := by rw [e]; simp
    have hl : k < (l1 ++ [a]).length := by simpa using hk
    rw [← List.getElem?_append_left (l₂ := l2) hl, e2]
    have hn : k < n := by
      have := congrArg List.length e2
      simp at this hl
      omega
    rw [List.getElem?_range hn]
  have ha : a = l1.length := by
    have := g l1.length (by omega)
    simpa using this
  have hn : l1.length < n := by
    have := congrArg List.length e
    simp at this
    omega
  refine ⟨l1.length, hn, by rw [← ha]; exact h1, fun j hj => h2 j ?_⟩
  have := g j (by omega)
  rw [List.getElem?_append_left hj] at this
  exact List.mem_of_getElem? this
theorem rng_map (n : Nat) : rng 0 n = (List.range n).map fun i : Nat => D.int (0 + (i : Nat)) := rfl
theorem ix_map {α : Type} {f : α → D} {xs : List α} {i : Nat} {a : α} (h : xs[i]? = some a) : ixD (.lst (xs.map f)) (.int (i : Nat)) = some (f a) := by
  show atI _ _ = _
  rw [atI_nat (by rw [List.getElem?_map, h]; rfl)]
theorem lk0 : ((0 : Nat) ≤ lim) = True := by decide
theorem ll0 : ((0 : Nat) < lim) = True := by decide
theorem lk1 : ((1 : Nat) ≤ lim) = True := by decide
theorem ll1 : ((1 : Nat) < lim) = True := by decide
theorem lk2 : ((2 : Nat) ≤ lim) = True := by decide
theorem ll2 : ((2 : Nat) < lim) = True := by decide
theorem lk3 : ((3 : Nat) ≤ lim) = True := by decide
theorem ll3 : ((3 : Nat) < lim) = True := by decide
theorem lk4 : ((4 : Nat) ≤ lim) = True := by decide
theorem ll4 : ((4 : Nat) < lim) = True := by decide
theorem lk5 : ((5 : Nat) ≤ lim) = True := by decide
theorem ll5 : ((5 : Nat) < lim) = True := by decide
theorem lk6 : ((6 : Nat) ≤ lim) = True := by decide
theorem ll6 : ((6 : Nat) < lim) = True := by decide
theorem lk7 : ((7 : Nat) ≤ lim) = True := by decide
theorem ll7 : ((7 : Nat) < lim) = True := by decide
theorem lk8 : ((8 : Nat) ≤ lim) = True := by decide
theorem ll8 : ((8 : Nat) < lim) = True := by decide
theorem lk9 : ((9 : Nat) ≤ lim) = True := by decide
theorem ll9 : ((9 : Nat) < lim) = True := by decide
theorem lk10 : ((10 : Nat) ≤ lim) = True := by decide
theorem ll10 : ((10 : Nat) < lim) = True := by decide
theorem lk11 : ((11 : Nat) ≤ lim) = True := by decide
theorem ll11 : ((11 : Nat) < lim) = True := by decide
theorem lk12 : ((12 : Nat) ≤ lim) = True := by decide
theorem ll12 : ((12 : Nat) < lim) = True := by decide
theorem lk13 : ((13 : Nat) ≤ lim) = True := by decide
theorem ll13 : ((13 : Nat) < lim) = True := by decide
theorem lk14 : ((14 : Nat) ≤ lim) = True := by decide
theorem ll14 : ((14 : Nat) < lim) = True := by decide
theorem lk15 : ((15 : Nat) ≤ lim) = True := by decide
theorem ll15 : ((15 : Nat) < lim) = True := by decide
theorem lk16 : ((16 : Nat) ≤ lim) = True := by decide
theorem ll16 : ((16 : Nat) < lim) = True := by decide
theorem lk17 : ((17 : Nat) ≤ lim) = True := by decide
theorem ll17 : ((17 : Nat) < lim) = True := by decide
theorem lk18 : ((18 : Nat) ≤ lim) = True := by decide
theorem ll18 : ((18 : Nat) < lim) = True := by decide
theorem lk19 : ((19 : Nat) ≤ lim) = True := by decide
theorem ll19 : ((19 : Nat) < lim) = True := by decide
theorem lk20 : ((20 : Nat) ≤ lim) = True := by decide
theorem ll20 : ((20 : Nat) < lim) = True := by decide
theorem lk21 : ((21 : Nat) ≤ lim) = True := by decide
theorem ll21 : ((21 : Nat) < lim) = True := by decide
theorem lk22 : ((22 : Nat) ≤ lim) = True := by decide
theorem ll22 : ((22 : Nat) < lim) = True := by decide
theorem lk23 : ((23 : Nat) ≤ lim) = True := by decide
theorem ll23 : ((23 : Nat) < lim) = True := by decide
theorem lk24 : ((24 : Nat) ≤ lim) = True := by decide
theorem ll24 : ((24 : Nat) < lim) = True := by decide
theorem isN_1 : isN .non = true := rfl
theorem isN_2 (b : Bool) : isN (.bl b) = false := rfl
theorem isN_3 (b : Int) : isN (.int b) = false := rfl
theorem isN_4 (b : Str) : isN (.str b) = false := rfl
theorem isN_5 (b : List D) : isN (.lst b) = false := rfl
theorem isN_6 (b : List D) : isN (.tup b) = false := rfl
theorem isN_7 (b : List (Key × D)) : isN (.dct b) = false := rfl
theorem isN_8 (b : Nat) : isN (.obj b) = false := rfl
theorem isD_bl (a b : Bool) : isD (.bl a) (.bl b) = some (decide (a = b)) := rfl
theorem isnD_bl (a b : Bool) : isnD (.bl a) (.bl b) = some (!decide (a = b)) := rfl
theorem mapErase {α : Type} (f : α → D) : ∀ (l : List α) (i : Nat), (l.map f).eraseIdx i = (l.eraseIdx i).map f
  | [], _ => rfl
  | a :: l, 0 => rfl
  | a :: l, i + 1 => by simp [mapErase f l i]
theorem resd_f (d : D) : (Res.f d).d = d := rfl
theorem resd_o (xs : List D) : (Res.o xs).d = .lst xs := rfl
end Dn

namespace Dn
open PySem L2 PyProof.Rows
/-! ### == of data -/
/-- no dict, no object, at most k deep -/
def pl : Nat → D → Bool
  | _, .non => true
  | _, .bl _ => true
  | _, .int _ => true
  | _, .str s => PyData.strOk s
  | k + 1, .lst xs => xs.all (pl k)
  | k + 1, .tup xs => xs.all (pl k)
  | _, _ => false
theorem pl_py : ∀ (k : Nat) (d : D), pl k d = true → (toPy d).canLay0 = true ∧ (toPy d).depth ≤ k := by
  intro k
  induction k with
  | zero => intro d h; cases d <;> first | exact ⟨rfl, Nat.le_refl _⟩ | (exact ⟨h, Nat.le_refl _⟩) | (simp [pl] at h)
  | succ k ih =>
    have all : ∀ xs : List D, xs.all (pl k) = true → PyData.canLayAll0 (toPyA xs) = true ∧ PyData.depthAll (toPyA xs) ≤ k := by
      intro xs
      induction xs with
      | nil => intro _; exact ⟨rfl, Nat.zero_le _⟩
      | cons x xs ihx =>
        intro h
        rw [List.all_cons, Bool.and_eq_true] at h
        obtain ⟨a, b⟩ := ih x h.1
        obtain ⟨c, d⟩ := ihx h.2
        exact ⟨by simp [toPyA, PyData.canLayAll0, a, c], by simp only [toPyA, PyData.depthAll]; omega⟩
    intro d h
    cases d with
    | lst xs =>
      obtain ⟨a, b⟩ := all xs h
      exact ⟨by simpa [toPy, PyData.canLay0] using a, by simp only [toPy, PyData.depth]; omega⟩
    | tup xs =>
      obtain ⟨a, b⟩ := all xs h
      exact ⟨by simpa [toPy, PyData.canLay0] using a, by simp only [toPy, PyData.depth]; omega⟩
    | dct _ => simp [pl] at h
    | scr _ => simp [pl] at h
    | obj _ => simp [pl] at h
    | str s => exact ⟨h, Nat.zero_le _⟩
    | _ => exact ⟨rfl, Nat.zero_le _⟩
theorem pl_shp {k : Nat} {d : D} (hk : k ≤ 64) (h : pl k d = true) : shpD d = true := by
  obtain ⟨a, b⟩ := pl_py k d h
  unfold shpD SeqAt.shaped
  rw [a, decide_eq_true (by omega)]
  rfl
theorem eqD_pl {j k : Nat} {x y : D} (hx : pl j x = true) (hy : pl k y = true) (hj : j ≤ 64 := by decide) (hk : k ≤ 64 := by decide) : eqD x y = some (PyData.eqv (toPy x) (toPy y)) := by
  unfold eqD
  rw [if_pos (Or.inr ⟨pl_shp hj hx, pl_shp hk hy⟩)]
theorem eqD_self {k : Nat} {x : D} (hx : pl k x = true) (hk : k ≤ 64 := by decide) : eqD x x = some true := by
  rw [eqD_pl hx hx hk hk, SeqAt.eqv_refl _ (pl_py k x hx).1]
theorem neD_self {k : Nat} {x : D} (hx : pl k x = true) (hk : k ≤ 64 := by decide) : neD x x = some false := by unfold neD; rw [eqD_self hx hk]; rfl
theorem pl_map {α : Type} {k : Nat} {f : α → D} {xs : List α} (h : ∀ a ∈ xs, pl k (f a) = true) : pl (k + 1) (.lst (xs.map f)) = true := by
  show (xs.map f).all (pl k) = true
  rw [List.all_eq_true]
  intro d hd
  obtain ⟨a, ha, rfl⟩ := List.mem_map.mp hd
  exact h a ha
theorem pl_mem {k : Nat} {xs : List D} (h : ∀ d ∈ xs, pl k d = true) : pl (k + 1) (.lst xs) = true := List.all_eq_true.mpr h
theorem pl_memT {k : Nat} {xs : List D} (h : ∀ d ∈ xs, pl k d = true) : pl (k + 1) (.tup xs) = true := List.all_eq_true.mpr h
theorem pl_up : ∀ {k : Nat} {d : D}, pl k d = true → ∀ {j : Nat}, k ≤ j → pl j d = true := by
  intro k
  induction k with
  | zero => intro d h j _; cases d <;> first | (cases j <;> rfl) | (cases j <;> exact h) | (simp [pl] at h)
  | succ k ih =>
    intro d h j hj
    obtain ⟨i, rfl⟩ : ∃ i, j = i + 1 := ⟨j - 1, by omega⟩
    have all : ∀ xs : List D, xs.all (pl k) = true → xs.all (pl i) = true := fun xs h => List.all_eq_true.mpr fun x hx => ih (List.all_eq_true.mp h x hx) (by omega)
    cases d with
    | lst xs => exact all xs h
    | tup xs => exact all xs h
    | dct _ => simp [pl] at h
    | scr _ => simp [pl] at h
    | obj _ => simp [pl] at h
    | str s => exact h
    | _ => rfl
theorem eqvA_map {α : Type} [DecidableEq α] {f : α → D} (hf : ∀ a b, PyData.eqv (toPy (f a)) (toPy (f b)) = decide (a = b)) : ∀ (xs ys : List α), PyData.eqvAll (toPyA (xs.map f)) (toPyA (ys.map f)) = decide (xs = ys)
  | [], [] => rfl
  | [], y :: ys => by simp [toPyA, PyData.eqvAll]
  | x :: xs, [] => by simp [toPyA, PyData.eqvAll]
  | x :: xs, y :: ys => by
    simp only [List.map_cons, toPyA, PyData.eqvAll, hf, eqvA_map hf xs ys]
    by_cases h : x = y <;> simp [h]
theorem eqD_map {α : Type} [DecidableEq α] {k : Nat} {f : α → D} {xs ys : List α} (h1 : ∀ a ∈ xs, pl k (f a) = true) (h2 : ∀ a ∈ ys, pl k (f a) = true) (hf : ∀ a b, PyData.eqv (toPy (f a)) (toPy (f b)) = decide (a = b)) (hk : k + 1 ≤ 64 := by decide) : eqD (.lst (xs.map f)) (.lst (ys.map f)) = some (decide (xs = ys)) := by
  rw [eqD_pl (pl_map h1) (pl_map h2) hk hk]
  show some (PyData.eqvAll _ _) = _
  rw [eqvA_map hf]
theorem eqv_str (a b : Str) : PyData.eqv (toPy (.str a)) (toPy (.str b)) = decide (a = b) := by
  show (a == b) = _
  rw [Bool.eq_iff_iff]; simp
theorem eqv_int (a b : Int) : PyData.eqv (toPy (.int a)) (toPy (.int b)) = decide (a = b) := by
  show (a == b) = _
  rw [Bool.eq_iff_iff]; simp
theorem eqD_strs {xs ys : List Str} (h1 : ∀ x ∈ xs, PyData.strOk x = true) (h2 : ∀ x ∈ ys, PyData.strOk x = true) : eqD (.lst (xs.map .str)) (.lst (ys.map .str)) = some (decide (xs = ys)) := eqD_map (k := 0) h1 h2 eqv_str
theorem eqD_ints (xs ys : List Int) : eqD (.lst (xs.map .int)) (.lst (ys.map .int)) = some (decide (xs = ys)) := eqD_map (k := 0) (fun _ _ => rfl) (fun _ _ => rfl) eqv_int
/-- xs == [] -/
theorem eqD_nil {k : Nat} {xs : List D} (h : pl k (.lst xs) = true) (hk : k ≤ 64 := by decide) : eqD (.lst xs) (.lst []) = some (decide (xs = [])) := by
  rw [eqD_pl h (show pl 1 (.lst []) = true from rfl) hk (by decide)]
  show some (PyData.eqvAll (toPyA xs) []) = _
  cases xs with
  | nil => rfl
  | cons x xs => simp [toPyA, PyData.eqvAll]
/-- unlike kinds -/
theorem eqD_is (a : Int) (b : Str) : eqD (.int a) (.str b) = some false := rfl
theorem eqD_si (a : Str) (b : Int) : eqD (.str a) (.int b) = some false := rfl
theorem eqD_ns (b : Str) : eqD .non (.str b) = some false := rfl
theorem eqD_sn (b : Str) : eqD (.str b) .non = some false := rfl
theorem eqD_ni (b : Int) : eqD .non (.int b) = some false := rfl
theorem eqD_in (b : Int) : eqD (.int b) .non = some false := rfl
theorem eqD_nn : eqD .non .non = some true := rfl
/-! ### slices -/
def cutL {α : Type} (xs : List α) (lo hi : Option Int) : List α := (xs.drop (HT.sIx xs.length 0 lo)).take (HT.sIx xs.length xs.length hi - HT.sIx xs.length 0 lo)
theorem cutI_L (xs : List Int) (lo hi : Option Int) : cutI xs lo hi = cutL xs lo hi := rfl
theorem cutD_L (xs : List D) (lo hi : Option Int) : Dn.cutD xs lo hi = cutL xs lo hi := rfl
theorem cutS_tx (l : List Nat) (lo hi : Option Int) : cutS (tx l) lo hi = tx (cutL l lo hi) := rfl
theorem cutL_map {α β : Type} (f : α → β) (xs : List α) (lo hi : Option Int) : cutL (xs.map f) lo hi = (cutL xs lo hi).map f := by
  unfold cutL
  rw [List.length_map, ← List.map_drop, ← List.map_take]
theorem cutL_nn {α : Type} (xs : List α) (a b : Int) (ha : 0 ≤ a) (hb : 0 ≤ b) : cutL xs (some a) (some b) = (xs.take b.toNat).drop a.toNat := by
  unfold cutL
  rw [sIx_nn _ _ _ ha, sIx_nn _ _ _ hb]
  apply List.ext_getElem?
  intro i
  simp only [List.getElem?_take, List.getElem?_drop]
  by_cases h1 : a.toNat ≤ xs.length
  · rw [Nat.min_eq_left h1]
    by_cases h2 : b.toNat ≤ xs.length
    · rw [Nat.min_eq_left h2]
      by_cases h3 : i < b.toNat - a.toNat
      · rw [if_pos h3, if_pos (by omega)]
      · rw [if_neg h3, if_neg (by omega)]
    · rw [Nat.min_eq_right (by omega)]
      by_cases h3 : i < xs.length - a.toNat
      · rw [if_pos h3, if_pos (by omega)]
      · rw [if_neg h3]
        split
        · rw [List.getElem?_eq_none (by omega)]
        · rfl
  · rw [show min a.toNat xs.length = xs.length by omega]
    rw [List.getElem?_eq_none (show xs.length ≤ a.toNat + i by omega), List.getElem?_eq_none (show xs.length ≤ xs.length + i by omega)]
    split <;> split <;> rfl
theorem cutL_len {α : Type} (xs : List α) (a b : Int) (ha : 0 ≤ a) (hb : 0 ≤ b) : (cutL xs (some a) (some b)).length ≤ (b - a).toNat := by
  rw [cutL_nn _ _ _ ha hb, List.length_drop, List.length_take]
  omega
theorem cutL_to {α : Type} (xs : List α) (a : Int) (ha : 0 ≤ a) : cutL xs (some a) none = xs.drop a.toNat := by
  unfold cutL
  rw [sIx_nn _ _ _ ha]
  show (xs.drop (min a.toNat xs.length)).take (xs.length - min a.toNat xs.length) = _
  by_cases h : a.toNat ≤ xs.length
  · rw [Nat.min_eq_left h, List.take_of_length_le (by simp)]
  · rw [Nat.min_eq_right (by omega), List.drop_eq_nil_of_le (Nat.le_refl _), List.drop_eq_nil_of_le (by omega)]
    simp
theorem cutL_from {α : Type} (xs : List α) (b : Int) (hb : 0 ≤ b) : cutL xs none (some b) = xs.take b.toNat := by
  unfold cutL
  rw [sIx_nn _ _ _ hb]
  show (xs.drop 0).take (min b.toNat xs.length - 0) = _
  rw [List.drop_zero, Nat.sub_zero]
  by_cases h : b.toNat ≤ xs.length
  · rw [Nat.min_eq_left h]
  · rw [Nat.min_eq_right (by omega), List.take_of_length_le (Nat.le_refl _), List.take_of_length_le (by omega)]
theorem cutL_le {α : Type} (xs : List α) (a b : Option Int) : (cutL xs a b).length ≤ xs.length := by
  unfold cutL
  rw [List.length_take, List.length_drop]
  omega
theorem cutL_mem {α : Type} {xs : List α} {lo hi : Option Int} {x : α} (h : x ∈ cutL xs lo hi) : x ∈ xs := List.mem_of_mem_drop (List.mem_of_mem_take h)
theorem cutL_last {α : Type} (xs : List α) : cutL xs none (some (-1)) = xs.dropLast := by
  have e : HT.sIx xs.length xs.length (some (-1)) = ((-1 : Int) + (xs.length : Int)).toNat := by
    show (if (-1 : Int) < 0 then ((-1 : Int) + (xs.length : Int)).toNat else min (-1 : Int).toNat xs.length) = _
    rw [if_pos (by decide)]
  unfold cutL
  rw [e]
  show (xs.drop 0).take (((-1 : Int) + (xs.length : Int)).toNat - 0) = _
  rw [List.drop_zero, List.dropLast_eq_take]
  congr 1
  omega
end Dn

namespace Dn
open PySem L2 PyProof.Rows
/-! ### range(i, j, 2), range(i, j, 3) -/
theorem rng_by2 {i j : Int} (hi : -1000000 ≤ i ∧ i ≤ 1000000) (hj : -1000000 ≤ j ∧ j ≤ 1000000) : ∃ n : Nat, Builtin.Range.rangeSize i j 2 = n ∧ Builtin.Range.small i j 2 = true ∧ (∀ t : Nat, t < n → i + (t : Int) * 2 < j) ∧ (n : Int) * 2 ≤ (if i < j then j - i + 1 else 0) := by
  have hsz : Builtin.Range.rangeSize i j 2 = if i < j then (j - i - 1) / 2 + 1 else 0 := rfl
  refine ⟨(Builtin.Range.rangeSize i j 2).toNat, ?_, ?_, fun t ht => ?_, ?_⟩
  · rw [hsz]; split <;> omega
  · unfold Builtin.Range.small
    rw [hsz]
    simp only [Builtin.Range.rangeFitsLong, Bool.and_eq_true, Bool.or_eq_true, decide_eq_true_eq, beq_iff_eq, show (2 : Int) > 0 by decide, if_true]
    split <;> omega
  · rw [hsz] at ht
    split at ht <;> omega
  · rw [hsz]
    split <;> omega
theorem rng_by3 {i j : Int} (hi : -1000000 ≤ i ∧ i ≤ 1000000) (hj : -1000000 ≤ j ∧ j ≤ 1000000) : ∃ n : Nat, Builtin.Range.rangeSize i j 3 = n ∧ Builtin.Range.small i j 3 = true ∧ (∀ t : Nat, t < n → i + (t : Int) * 3 < j) ∧ (n : Int) * 3 ≤ (if i < j then j - i + 2 else 0) := by
  have hsz : Builtin.Range.rangeSize i j 3 = if i < j then (j - i - 1) / 3 + 1 else 0 := rfl
  refine ⟨(Builtin.Range.rangeSize i j 3).toNat, ?_, ?_, fun t ht => ?_, ?_⟩
  · rw [hsz]; split <;> omega
  · unfold Builtin.Range.small
    rw [hsz]
    simp only [Builtin.Range.rangeFitsLong, Bool.and_eq_true, Bool.or_eq_true, decide_eq_true_eq, beq_iff_eq, show (3 : Int) > 0 by decide, if_true]
    split <;> omega
  · rw [hsz] at ht
    split at ht <;> omega
  · rw [hsz]
    split <;> omega
theorem rngC_map (lo c : Int) (n : Nat) : rngC lo c n = (List.range n).map fun i : Nat => D.int (lo + (i : Nat) * c) := rfl
theorem lit_ok (s : String) : PyData.strOk (Str.ofString s) = true := by
  rw [Str.ofString_eq_toList]
  show ((s.toList.map Char.toNat).toArray).all _ = true
  rw [List.all_toArray, List.all_eq_true]
  intro n hn
  obtain ⟨c, _, rfl⟩ := List.mem_map.mp hn
  have := c.valid
  simp only [decide_eq_true_eq]
  rcases this with h | ⟨_, h⟩
  · have h : c.toNat < 0xD800 := h
    omega
  · exact h
theorem pl_lit (s : String) : pl 0 (.str (Str.ofString s)) = true := lit_ok s
theorem eqD_cons_nil {k : Nat} {x : D} {xs : List D} (h : pl k (.lst (x :: xs)) = true) (hk : k ≤ 64 := by decide) : eqD (.lst (x :: xs)) (.lst []) = some false := by
  rw [eqD_nil h hk, decide_eq_false (by simp)]
/-- a comprehension whose items are not spelt -/
theorem lcD_ex {α : Type} {b : D → En → Option En} {elt : En → M D} {env : En} {S : Store} (enc : α → D) (P : D → Prop) : ∀ (xs : List α) (acc : List D), (∀ x ∈ xs, ∃ env1 d, b (enc x) env = some env1 ∧ elt env1 S = .ok d S ∧ P d) → acc.length + xs.length ≤ lim →
    ∃ ds, lcD b tYesD elt env (xs.map enc) acc S = .ok (acc ++ ds) S ∧ ds.length = xs.length ∧ ∀ d ∈ ds, P d
  | [], acc, _, _ => ⟨[], by simp [lcD, M.ret], rfl, fun _ h => by simp at h⟩
  | x :: xs, acc, h, hl => by
    obtain ⟨env1, d, h1, h2, h3⟩ := h x List.mem_cons_self
    have hl' : acc.length + (xs.length + 1) ≤ lim := by simpa using hl
    obtain ⟨ds, e1, e2, e3⟩ := lcD_ex (b := b) (elt := elt) (env := env) (S := S) enc P xs (acc ++ [d]) (fun y hy => h y (List.mem_cons_of_mem _ hy)) (by simp; omega)
    refine ⟨d :: ds, ?_, by simp [e2], fun y hy => ?_⟩
    · rw [List.map_cons]
      unfold lcD
      rw [h1]
      show M.bind _ _ S = _
      rw [bind_ok (quiet_ok (show tYesD env1 S = .ok true S from rfl)), if_pos rfl, bind_ok (quiet_ok h2), if_pos (show acc.length < lim by omega), e1]
      simp
    · rcases List.mem_cons.mp hy with rfl | hy
      · exact h3
      · exact e3 y hy
end Dn

namespace Dn
open PySem L2 PyProof.Rows
/-! ### plain laws of lists, tables -/
theorem lenO_lst (xs : List D) : lenO [.lst xs] = some (.int xs.length) := rfl
theorem lenO_dctl (xs : List (Key × D)) : lenO [.dct xs] = some (.int xs.length) := rfl
theorem lenO_tupl (xs : List D) : lenO [.tup xs] = some (.int xs.length) := rfl
theorem ixD_l0 (a : D) (xs : List D) : ixD (.lst (a :: xs)) (.int 0) = some a := ix_lst (by decide) rfl
theorem ixD_l1 (a b : D) (xs : List D) : ixD (.lst (a :: b :: xs)) (.int 1) = some b := ix_lst (by decide) rfl
theorem ixD_l2 (a b c : D) (xs : List D) : ixD (.lst (a :: b :: c :: xs)) (.int 2) = some c := ix_lst (by decide) rfl
theorem ixD_l3 (a b c d : D) (xs : List D) : ixD (.lst (a :: b :: c :: d :: xs)) (.int 3) = some d := ix_lst (by decide) rfl
theorem ixD_l4 (a b c d e : D) (xs : List D) : ixD (.lst (a :: b :: c :: d :: e :: xs)) (.int 4) = some e := ix_lst (by decide) rfl
theorem ixD_t0 (a : D) (xs : List D) : ixD (.tup (a :: xs)) (.int 0) = some a := ix_tup (by decide) rfl
theorem ixD_t1 (a b : D) (xs : List D) : ixD (.tup (a :: b :: xs)) (.int 1) = some b := ix_tup (by decide) rfl
theorem ixD_t2 (a b c : D) (xs : List D) : ixD (.tup (a :: b :: c :: xs)) (.int 2) = some c := ix_tup (by decide) rfl
theorem ixD_t3 (a b c d : D) (xs : List D) : ixD (.tup (a :: b :: c :: d :: xs)) (.int 3) = some d := ix_tup (by decide) rfl
theorem ixD_t4 (a b c d e : D) (xs : List D) : ixD (.tup (a :: b :: c :: d :: e :: xs)) (.int 4) = some e := ix_tup (by decide) rfl
theorem ixD_t5 (a b c d e f : D) (xs : List D) : ixD (.tup (a :: b :: c :: d :: e :: f :: xs)) (.int 5) = some f := ix_tup (by decide) rfl
theorem ixD_t6 (a b c d e f g : D) (xs : List D) : ixD (.tup (a :: b :: c :: d :: e :: f :: g :: xs)) (.int 6) = some g := ix_tup (by decide) rfl
theorem lcD_cons_S (b : D → En → Option En) (t : En → M Bool) (elt : En → M D) (env : En) (d : D) (ds acc : List D) (S : Store) : lcD b t elt env (d :: ds) acc S = (match b d env with
    | none => R.bad
    | some env1 => bindR (quietR (t env1 S)) fun k => if k = true then M.bind (quiet (elt env1)) fun y => if acc.length < lim then lcD b t elt env ds (acc ++ [y]) else M.bad else lcD b t elt env ds acc) := by
  rw [lcD]
  cases b d env with
  | none => rfl
  | some e => rfl
theorem lcD_nil_S (b : D → En → Option En) (t : En → M Bool) (elt : En → M D) (env : En) (acc : List D) (S : Store) : lcD b t elt env [] acc S = .ok acc S := rfl
theorem sCons_nx' {a b : En → M Fl} {env env' : En} {S S' : Store} (h : a env S = .ok (.nx env') S') : sCons a b env S = b env' S' := by
  rw [sCons_S, bind_S, h]
  rfl
theorem forD_nx {body : En → M Fl} {b : D → En → Option En} {d : D} {ds : List D} {env env1 env2 : En} {S S' : Store} (h1 : b d env = some env1) (h2 : body env1 S = .ok (.nx env2) S') : forD body b (d :: ds) env S = forD body b ds env2 S' := by
  rw [forD_cons_S, h1]
  show M.bind (body env1) _ S = _
  rw [bind_ok h2]
theorem scr_ex (ns : List Int) (i : Int) (h0 : 0 ≤ i) (h : i < ns.length) : ∃ v, ixD (.scr ns) (.int i) = some (.int v) := by
  obtain ⟨j, rfl⟩ : ∃ j : Nat, i = j := ⟨i.toNat, by omega⟩
  have hj : j < ns.length := by omega
  exact ⟨ns[j], ix_scr (by omega) (by rw [Int.toNat_natCast]; exact List.getElem?_eq_getElem hj)⟩
theorem cutD_L1 (a : D) (xs : List D) : Dn.cutD (a :: xs) (some 1) none = xs := by
  show cutL _ _ _ = _
  rw [cutL_to _ _ (by decide)]; rfl
theorem findF_of {x : D} : ∀ {ys : List D} {i : Nat} {z : D}, ys[i]? = some z → eqF z x = true → (∀ j w, j < i → ys[j]? = some w → eqF w x = false) → findF x ys = some i
  | [], _, _, h, _, _ => by simp at h
  | y :: ys, 0, z, h, e, _ => by
    cases h
    unfold findF
    rw [if_pos e]
  | y :: ys, i + 1, z, h, e, n => by
    have h0 := n 0 y (Nat.zero_lt_succ _) rfl
    unfold findF
    rw [if_neg (by rw [h0]; simp), findF_of (by simpa using h) e fun j w hj hw => n (j + 1) w (Nat.succ_lt_succ hj) (by simpa using hw)]
    rfl
theorem inF_strs (e : Str) : ∀ xs : List Str, inF (.str e) (xs.map .str) = decide (e ∈ xs)
  | [] => rfl
  | x :: xs => by
    have ih := inF_strs e xs
    unfold inF at ih ⊢
    rw [List.map_cons, List.any_cons, ih]
    show ((x == e) || decide (e ∈ xs)) = _
    rw [Bool.eq_iff_iff]
    simp only [Bool.or_eq_true, beq_iff_eq, decide_eq_true_eq, List.mem_cons]
    constructor
    · rintro (h | h)
      · exact .inl h.symm
      · exact .inr h
    · rintro (h | h)
      · exact .inl h.symm
      · exact .inr h
theorem inD_strs (e : Str) (xs : List Str) : inD (.str e) (.lst (xs.map .str)) = some (decide (e ∈ xs)) := by
  have h : inD (.str e) (.lst (xs.map .str)) = if flatD (.str e) = true ∧ (xs.map D.str).all flatD = true then some (inF (.str e) (xs.map .str)) else if shpD (.str e) = true ∧ shpD (.lst (xs.map .str)) = true then some ((toPyA (xs.map .str)).any fun z => PyData.eqv z (toPy (.str e))) else none := rfl
  rw [h, if_pos ⟨rfl, by rw [List.all_map]; exact List.all_eq_true.mpr fun _ _ => rfl⟩, inF_strs]
theorem ninD_strs (e : Str) (xs : List Str) : ninD (.str e) (.lst (xs.map .str)) = some (!decide (e ∈ xs)) := by unfold ninD; rw [inD_strs]; rfl
theorem getK_nil (k : Key) : getK [] k = none := rfl
theorem getK_cons (a : Key) (x : D) (r : List (Key × D)) (k : Key) : getK ((a, x) :: r) k = if a = k then some x else getK r k := by
  unfold getK
  by_cases h : a = k <;> simp [List.find?_cons, h]
theorem getK_upd (k : Key) (v : D) (k' : Key) : ∀ kvs : List (Key × D), getK (kvs.map fun kv => if kv.1 = k then (kv.1, v) else kv) k' = if k' = k then (getK kvs k).map (fun _ => v) else getK kvs k'
  | [] => by simp [getK]
  | (a, x) :: r => by
    rw [List.map_cons]
    by_cases h : a = k
    · subst h
      rw [if_pos rfl, getK_cons, getK_cons, getK_cons, getK_upd a v k' r, if_pos rfl]
      by_cases h2 : k' = a
      · subst h2; rw [if_pos rfl, if_pos rfl]; rfl
      · rw [if_neg h2, if_neg (Ne.symm h2), if_neg h2, if_neg (Ne.symm h2)]
    · rw [if_neg h, getK_cons, getK_cons, getK_cons, getK_upd k v k' r, if_neg h]
      by_cases h2 : k' = k
      · subst h2; rw [if_pos rfl, if_neg h, if_pos rfl]
      · rw [if_neg h2, if_neg h2]
theorem getK_any (k : Key) : ∀ kvs : List (Key × D), (kvs.any fun kv => decide (kv.1 = k)) = (getK kvs k).isSome
  | [] => rfl
  | (a, x) :: r => by
    rw [List.any_cons, getK_cons, getK_any k r]
    by_cases h : a = k <;> simp [h]
theorem getK_end (k : Key) (v : D) (k' : Key) : ∀ kvs : List (Key × D), getK (kvs ++ [(k, v)]) k' = (getK kvs k').or (if k = k' then some v else none)
  | [] => by rw [List.nil_append, getK_cons, getK_nil]; rfl
  | (a, x) :: r => by
    rw [List.cons_append, getK_cons, getK_cons, getK_end k v k' r]
    by_cases h : a = k' <;> simp [h]
theorem getK_put (kvs : List (Key × D)) (k : Key) (v : D) (k' : Key) : getK (putD kvs k v) k' = if k' = k then some v else getK kvs k' := by
  unfold putD
  rw [getK_any]
  cases e : getK kvs k with
  | some w =>
    rw [if_pos (show (some w).isSome = true from rfl), getK_upd, e]
    rfl
  | none =>
    rw [if_neg (by simp), getK_end]
    by_cases h : k' = k
    · subst h; rw [e, if_pos rfl]; simp
    · rw [if_neg h, if_neg (Ne.symm h)]; simp
theorem getK_drop (k k' : Key) : ∀ kvs : List (Key × D), getK (dropD kvs k) k' = if k' = k then none else getK kvs k'
  | [] => by simp [dropD, getK]
  | (a, x) :: r => by
    have ih := getK_drop k k' r
    unfold dropD at ih ⊢
    rw [List.filter_cons]
    by_cases h : a = k
    · subst h
      rw [if_neg (by simp), ih, getK_cons]
      by_cases h2 : k' = a
      · rw [if_pos h2, if_pos h2]
      · rw [if_neg h2, if_neg h2, if_neg (Ne.symm h2)]
    · rw [if_pos (by simpa using h), getK_cons, ih, getK_cons]
      by_cases h2 : k' = k
      · subst h2; rw [if_neg h, if_pos rfl, if_pos rfl]
      · rw [if_neg h2, if_neg h2]
theorem drop_len (kvs : List (Key × D)) (k : Key) : (dropD kvs k).length ≤ kvs.length := List.length_filter_le _ _
theorem rL_rK {xs : List D} {kvs : List (Key × D)} (h : rL xs = rK kvs) : False := by
  have := congrArg Ob.raw h
  rw [raw_L, raw_K] at this
  cases this
theorem rL_ob {xs : List D} {c : String} {fs : List (Str × FV)} (hc : c ≠ "") (h : rL xs = ⟨c, fs⟩) : False := by
  have h : (Str.ofString "") = Str.ofString c := congrArg Ob.cls h
  rw [ofString_inj] at h
  exact hc h.symm
theorem rK_ob {xs : List (Key × D)} {c : String} {fs : List (Str × FV)} (hc : c ≠ "") (h : rK xs = ⟨c, fs⟩) : False := by
  have h : (Str.ofString "") = Str.ofString c := congrArg Ob.cls h
  rw [ofString_inj] at h
  exact hc h.symm
theorem two_at {S : Store} {i j : Nat} {a b : Ob} (h1 : S[i]? = some a) (h2 : S[j]? = some b) (ne : a = b → False) : i ≠ j := fun e => by
  subst e
  rw [h1] at h2
  cases h2
  exact ne rfl
/-- a walk over a list object that stays as it is -/
theorem forR_inv {α : Type} {body : En → M Fl} {b : D → En → Option En} {g : Nat} (enc : α → D) (xs : List α) (I : Nat → En → Store → Prop) (hI : ∀ i env S, I i env S → S[g]? = some (rL (xs.map enc))) (Post : Fl → Store → Prop)
    (hd : ∀ env S, I xs.length env S → Post (.nx env) S)
    (hs : ∀ i x env S, xs[i]? = some x → I i env S → ∃ env1, b (enc x) env = some env1 ∧ ∃ fl S', body env1 S = .ok fl S' ∧ match fl with
      | .nx e => I (i + 1) e S'
      | .ct e => I (i + 1) e S'
      | .bk e => Post (.nx e) S'
      | o => Post o S') : ∀ n i env S, i ≤ xs.length → xs.length < i + n → I i env S → ∃ fl S', forR body b (.obj g) n i env S = .ok fl S' ∧ Post fl S'
  | 0, i, env, S, h1, h2, _ => by omega
  | n + 1, i, env, S, h1, h2, h => by
    unfold forR
    rw [onL_obj, hI i env S h]
    dsimp only
    rw [raw_L]
    dsimp only
    rw [List.getElem?_map]
    cases e : xs[i]? with
    | none =>
      have : i = xs.length := by
        have := List.getElem?_eq_none_iff.mp e
        omega
      subst this
      exact ⟨_, _, rfl, hd env S h⟩
    | some x =>
      obtain ⟨env1, e1, fl, S', e2, e3⟩ := hs i x env S e h
      have hi : i < xs.length := (List.getElem?_eq_some_iff.mp e).1
      dsimp only [Option.map_some]
      rw [e1]
      dsimp only
      rw [bind_S, e2, bindR_ok]
      cases fl with
      | nx e' => exact forR_inv enc xs I hI Post hd hs n (i + 1) e' S' hi (by omega) e3
      | ct e' => exact forR_inv enc xs I hI Post hd hs n (i + 1) e' S' hi (by omega) e3
      | bk e' => exact ⟨_, _, rfl, e3⟩
      | rt d => exact ⟨_, _, rfl, e3⟩
      | rtO d => exact ⟨_, _, rfl, e3⟩
      | ex c e' => exact ⟨_, _, rfl, e3⟩
end Dn

namespace Law
open PySem L2 Dn PyProof.Rows
/-! ### the text: scopes, denotations (printed by gen.py) -/
def top (i : Nat) : Stmt := PySem.Challenge.pw_taskheart_k17_heirs.main.body.getD i (.Pass ⟨0, 0, 0, 0⟩)
def inClass : Stmt → Nat → Stmt
  | .ClassDef _ _ _ body _ _ _ _ _ _ _, j => body.getD j (.Pass ⟨0, 0, 0, 0⟩)
  | st, _ => st
abbrev st_Locks_held : Stmt := (inClass (top 16) 3)
abbrev N_Locks_held : List Str := ["self", "name"]
theorem sc_Locks_held : FnScope N_Locks_held ["self", "name"] (defScope st_Locks_held) := ⟨rfl, rfl, rfl, by decide +kernel, rfl, by decide +kernel, by decide +kernel⟩
abbrev st_Locks_waiting : Stmt := (inClass (top 16) 2)
abbrev N_Locks_waiting : List Str := ["self", "lock"]
theorem sc_Locks_waiting : FnScope N_Locks_waiting ["self", "lock"] (defScope st_Locks_waiting) := ⟨rfl, rfl, rfl, by decide +kernel, rfl, by decide +kernel, by decide +kernel⟩
abbrev st_waiters : Stmt := (top 1)
abbrev N_waiters : List Str := ["locks", "name", "found", "lock"]
theorem sc_waiters : FnScope N_waiters ["locks", "name"] (defScope st_waiters) := ⟨rfl, rfl, rfl, by decide +kernel, rfl, by decide +kernel, by decide +kernel⟩
abbrev st_lent : Stmt := (top 2)
abbrev N_lent : List Str := ["locks", "ranks", "name", "best", "one"]
theorem sc_lent : FnScope N_lent ["locks", "ranks", "name"] (defScope st_lent) := ⟨rfl, rfl, rfl, by decide +kernel, rfl, by decide +kernel, by decide +kernel⟩
abbrev st_heir : Stmt := (top 3)
abbrev N_heir : List Str := ["locks", "ranks", "lock", "found", "best", "one", "rank"]
theorem sc_heir : FnScope N_heir ["locks", "ranks", "lock"] (defScope st_heir) := ⟨rfl, rfl, rfl, by decide +kernel, rfl, by decide +kernel, by decide +kernel⟩
abbrev st_Locks_holder : Stmt := (inClass (top 16) 1)
abbrev N_Locks_holder : List Str := ["self", "lock"]
theorem sc_Locks_holder : FnScope N_Locks_holder ["self", "lock"] (defScope st_Locks_holder) := ⟨rfl, rfl, rfl, by decide +kernel, rfl, by decide +kernel, by decide +kernel⟩
abbrev st_Locks_wanted : Stmt := (inClass (top 16) 4)
abbrev N_Locks_wanted : List Str := ["self", "name"]
theorem sc_Locks_wanted : FnScope N_Locks_wanted ["self", "name"] (defScope st_Locks_wanted) := ⟨rfl, rfl, rfl, by decide +kernel, rfl, by decide +kernel, by decide +kernel⟩
abbrev st_arrow : Stmt := (top 13)
abbrev N_arrow : List Str := ["locks", "name", "lock"]
theorem sc_arrow : FnScope N_arrow ["locks", "name"] (defScope st_arrow) := ⟨rfl, rfl, rfl, by decide +kernel, rfl, by decide +kernel, by decide +kernel⟩
abbrev st_ring : Stmt := (top 14)
abbrev N_ring : List Str := ["locks", "name", "lock", "way", "at"]
theorem sc_ring : FnScope N_ring ["locks", "name", "lock"] (defScope st_ring) := ⟨rfl, rfl, rfl, by decide +kernel, rfl, by decide +kernel, by decide +kernel⟩
abbrev st_Locks___init__ : Stmt := (inClass (top 16) 0)
abbrev N_Locks___init__ : List Str := ["self"]
theorem sc_Locks___init__ : FnScope N_Locks___init__ ["self"] (defScope st_Locks___init__) := ⟨rfl, rfl, rfl, by decide +kernel, rfl, by decide +kernel, by decide +kernel⟩
abbrev st_Locks_get : Stmt := (inClass (top 16) 5)
abbrev N_Locks_get : List Str := ["self", "name", "lock"]
theorem sc_Locks_get : FnScope N_Locks_get ["self", "name", "lock"] (defScope st_Locks_get) := ⟨rfl, rfl, rfl, by decide +kernel, rfl, by decide +kernel, by decide +kernel⟩
abbrev st_Locks_want : Stmt := (inClass (top 16) 6)
abbrev N_Locks_want : List Str := ["self", "name", "lock"]
theorem sc_Locks_want : FnScope N_Locks_want ["self", "name", "lock"] (defScope st_Locks_want) := ⟨rfl, rfl, rfl, by decide +kernel, rfl, by decide +kernel, by decide +kernel⟩
abbrev st_Locks_give : Stmt := (inClass (top 16) 7)
abbrev N_Locks_give : List Str := ["self", "name", "lock", "heir", "line", "one"]
theorem sc_Locks_give : FnScope N_Locks_give ["self", "name", "lock", "heir"] (defScope st_Locks_give) := ⟨rfl, rfl, rfl, by decide +kernel, rfl, by decide +kernel, by decide +kernel⟩
abbrev st_law_cell_at : Stmt := (top 18)
abbrev N_law_cell_at : List Str := ["script", "k"]
theorem sc_law_cell_at : FnScope N_law_cell_at ["script", "k"] (defScope st_law_cell_at) := ⟨rfl, rfl, rfl, by decide +kernel, rfl, by decide +kernel, by decide +kernel⟩
abbrev st_law_mixed : Stmt := (top 19)
abbrev N_law_mixed : List Str := ["cell", "many"]
theorem sc_law_mixed : FnScope N_law_mixed ["cell", "many"] (defScope st_law_mixed) := ⟨rfl, rfl, rfl, by decide +kernel, rfl, by decide +kernel, by decide +kernel⟩
abbrev st_law_name_by : Stmt := (top 20)
abbrev N_law_name_by : List Str := ["k", "cell", "one", "other", "place"]
theorem sc_law_name_by : FnScope N_law_name_by ["k", "cell"] (defScope st_law_name_by) := ⟨rfl, rfl, rfl, by decide +kernel, rfl, by decide +kernel, by decide +kernel⟩
abbrev st_law_new : Stmt := (top 21)
abbrev N_law_new : List Str := []
theorem sc_law_new : FnScope N_law_new [] (defScope st_law_new) := ⟨rfl, rfl, rfl, by decide +kernel, rfl, by decide +kernel, by decide +kernel⟩
abbrev st_law_ring : Stmt := (top 22)
abbrev N_law_ring : List Str := ["state", "name", "lock", "at", "row", "k"]
theorem sc_law_ring : FnScope N_law_ring ["state", "name", "lock"] (defScope st_law_ring) := ⟨rfl, rfl, rfl, by decide +kernel, rfl, by decide +kernel, by decide +kernel⟩
abbrev st_law_due : Stmt := (top 23)
abbrev N_law_due : List Str := ["state", "deed", "name", "lock", "holder", "line"]
theorem sc_law_due : FnScope N_law_due ["state", "deed"] (defScope st_law_due) := ⟨rfl, rfl, rfl, by decide +kernel, rfl, by decide +kernel, by decide +kernel⟩
abbrev st_law_moved : Stmt := (top 24)
abbrev N_law_moved : List Str := ["state", "deed", "name", "lock", "one"]
theorem sc_law_moved : FnScope N_law_moved ["state", "deed"] (defScope st_law_moved) := ⟨rfl, rfl, rfl, by decide +kernel, rfl, by decide +kernel, by decide +kernel⟩
abbrev st_law_taken : Stmt := (top 25)
abbrev N_law_taken : List Str := ["locks", "state", "name", "lock", "deed", "due"]
theorem sc_law_taken : FnScope N_law_taken ["locks", "state", "name", "lock"] (defScope st_law_taken) := ⟨rfl, rfl, rfl, by decide +kernel, rfl, by decide +kernel, by decide +kernel⟩
abbrev st_law_built : Stmt := (top 26)
abbrev N_law_built : List Str := ["script", "names", "some", "locks", "state", "cell", "k"]
theorem sc_law_built : FnScope N_law_built ["script", "names", "some"] (defScope st_law_built) := ⟨rfl, rfl, rfl, by decide +kernel, rfl, by decide +kernel, by decide +kernel⟩
abbrev st_law_many_by : Stmt := (top 27)
abbrev N_law_many_by : List Str := ["cell", "many"]
theorem sc_law_many_by : FnScope N_law_many_by ["cell"] (defScope st_law_many_by) := ⟨rfl, rfl, rfl, by decide +kernel, rfl, by decide +kernel, by decide +kernel⟩
abbrev st_law_rank_by : Stmt := (top 28)
abbrev N_law_rank_by : List Str := ["cell", "k"]
theorem sc_law_rank_by : FnScope N_law_rank_by ["cell", "k"] (defScope st_law_rank_by) := ⟨rfl, rfl, rfl, by decide +kernel, rfl, by decide +kernel, by decide +kernel⟩
abbrev st_law_lent : Stmt := (top 29)
abbrev N_law_lent : List Str := ["state", "ranks", "best", "k", "name", "holder"]
theorem sc_law_lent : FnScope N_law_lent ["state", "ranks"] (defScope st_law_lent) := ⟨rfl, rfl, rfl, by decide +kernel, rfl, by decide +kernel, by decide +kernel⟩
abbrev st_law_heir : Stmt := (top 30)
abbrev N_law_heir : List Str := ["state", "ranks", "lock", "best", "found", "one"]
theorem sc_law_heir : FnScope N_law_heir ["state", "ranks", "lock"] (defScope st_law_heir) := ⟨rfl, rfl, rfl, by decide +kernel, rfl, by decide +kernel, by decide +kernel⟩
abbrev st_law_stays : Stmt := (top 31)
abbrev N_law_stays : List Str := ["locks", "state", "names", "name", "lock"]
theorem sc_law_stays : FnScope N_law_stays ["locks", "state", "names"] (defScope st_law_stays) := ⟨rfl, rfl, rfl, by decide +kernel, rfl, by decide +kernel, by decide +kernel⟩
abbrev st_law : Stmt := (top 32)
abbrev N_law : List Str := ["script", "many", "k", "names", "some", "locks", "state", "ranks", "copies", "others", "lock", "due", "found", "holder", "few", "one", "name"]
theorem sc_law : FnScope N_law ["script"] (defScope st_law) := ⟨rfl, rfl, rfl, by decide +kernel, rfl, by decide +kernel, by decide +kernel⟩
def dn_Locks_held : En → M Fl := sRetO (oListF (eGet2 (eRd (eFldD "Locks" "owns" (eVar 0))) (eVar 1) (eO (eLst (aNil)))))
def fn_Locks_held : Fn := fnD 2 dn_Locks_held
def dn_Locks_waiting : En → M Fl := sRetO (oListF (eGet2 (eRd (eFldD "Locks" "lines" (eVar 0))) (eVar 1) (eO (eLst (aNil)))))
def fn_Locks_waiting : Fn := fnD 2 dn_Locks_waiting
def dn_waiters : En → M Fl := sCons (sSetO 2 (eLst (aNil))) (sCons (sFor (iA (eMt "Locks" "held" (eVar 0) fn_Locks_held (aCons (eVar 1) (aNil)))) (bName 3) (sExt 2 (eMt "Locks" "waiting" (eVar 0) fn_Locks_waiting (aCons (eVar 3) (aNil))))) (sRetV 2))
def fn_waiters : Fn := fnD 4 dn_waiters
def dn_lent (self_ : Fn) : En → M Fl := sCons (sSet 3 (eBin dgetD (eRd (eVar 1)) (eVar 2))) (sCons (sFor (iA (eFn (fn_waiters) (aCons (eVar 0) (aCons (eVar 2) (aNil))))) (bName 4) (sSet 3 (eCall maxO (aCons (eVar 3) (aCons (eFn (self_) (aCons (eVar 0) (aCons (eVar 1) (aCons (eVar 4) (aNil))))) (aNil)))))) (sRet (eVar 3)))
def fnN_lent : Nat → Fn
  | 0 => fun _ => M.bad
  | n + 1 => fnD 5 (dn_lent (fnN_lent n))
def fn_lent : Fn := fnN_lent 70
def dn_heir : En → M Fl := sCons (sSet 3 (eC .non)) (sCons (sSet 4 (eNegD (eC (.int 1)))) (sCons (sFor (iA (eMt "Locks" "waiting" (eVar 0) fn_Locks_waiting (aCons (eVar 2) (aNil)))) (bName 5) (sCons (sSet 6 (eFn (fn_lent) (aCons (eVar 0) (aCons (eVar 1) (aCons (eVar 5) (aNil)))))) (sIf (tBin gtD (eVar 6) (eVar 4)) (sCons (sSet 4 (eVar 6)) (sSet 3 (eVar 5))) (sNil)))) (sRet (eVar 3))))
def fn_heir : Fn := fnD 7 dn_heir
def dn_Locks_holder : En → M Fl := sRet (eGet1 (eRd (eFldD "Locks" "holders" (eVar 0))) (eVar 1))
def fn_Locks_holder : Fn := fnD 2 dn_Locks_holder
def dn_Locks_wanted : En → M Fl := sRet (eGet1 (eRd (eFldD "Locks" "wants" (eVar 0))) (eVar 1))
def fn_Locks_wanted : Fn := fnD 2 dn_Locks_wanted
def dn_arrow : En → M Fl := sCons (sSet 2 (eMt "Locks" "wanted" (eVar 0) fn_Locks_wanted (aCons (eVar 1) (aNil)))) (sCons (sIf (tBin isD (eVar 2) (eC .non)) (sRet (eC .non)) (sNil)) (sRet (eMt "Locks" "holder" (eVar 0) fn_Locks_holder (aCons (eVar 2) (aNil)))))
def fn_arrow : Fn := fnD 3 dn_arrow
def dn_ring : En → M Fl := sCons (sSetO 3 (eLst (aCons (eVar 1) (aNil)))) (sCons (sSet 4 (eMt "Locks" "holder" (eVar 0) fn_Locks_holder (aCons (eVar 2) (aNil)))) (sCons (whileD (tAndD (tBin isnD (eVar 4) (eC .non)) (tBin neD (eVar 4) (eVar 1))) (sCons (sApp 3 (eVar 4)) (sSet 4 (eFn (fn_arrow) (aCons (eVar 0) (aCons (eVar 4) (aNil)))))) 1000) (sCons (sIf (tBin isD (eVar 4) (eC .non)) (sRet (eC .non)) (sNil)) (sRetV 3))))
def fn_ring : Fn := fnD 5 dn_ring
def dn_Locks___init__ : En → M Fl := sCons (sFldD "Locks" "holders" (eVar 0) (eNewK (kNil))) (sCons (sFldD "Locks" "lines" (eVar 0) (eNewK (kNil))) (sCons (sFldD "Locks" "owns" (eVar 0) (eNewK (kNil))) (sFldD "Locks" "wants" (eVar 0) (eNewK (kNil)))))
def fn_Locks___init__ : Fn := fnD 1 dn_Locks___init__
def dn_Locks_get : En → M Fl := sCons (sIf (tBin inD (eVar 2) (eRd (eFldD "Locks" "holders" (eVar 0)))) (sRaise "Taken") (sNil)) (sCons (sIf (tBin inD (eVar 1) (eRd (eFldD "Locks" "wants" (eVar 0)))) (sRaise "Known") (sNil)) (sCons (sRPut (eFldD "Locks" "holders" (eVar 0)) (eVar 2) (eVar 1)) (sRPut (eFldD "Locks" "owns" (eVar 0)) (eVar 1) (eBin addD (eMt "Locks" "held" (eVar 0) fn_Locks_held (aCons (eVar 1) (aNil))) (eO (eLst (aCons (eVar 2) (aNil))))))))
def fn_Locks_get : Fn := fnD 3 dn_Locks_get
def dn_Locks_want : En → M Fl := sCons (sIf (tBin ninD (eVar 2) (eRd (eFldD "Locks" "holders" (eVar 0)))) (sRaise "Free") (sNil)) (sCons (sIf (tBin inD (eVar 1) (eRd (eFldD "Locks" "wants" (eVar 0)))) (sRaise "Known") (sNil)) (sCons (sIf (tBin isnD (eFn (fn_ring) (aCons (eVar 0) (aCons (eVar 1) (aCons (eVar 2) (aNil))))) (eC .non)) (sRaise "Knot") (sNil)) (sCons (sRPut (eFldD "Locks" "lines" (eVar 0)) (eVar 2) (eBin addD (eMt "Locks" "waiting" (eVar 0) fn_Locks_waiting (aCons (eVar 2) (aNil))) (eO (eLst (aCons (eVar 1) (aNil)))))) (sRPut (eFldD "Locks" "wants" (eVar 0)) (eVar 1) (eVar 2)))))
def fn_Locks_want : Fn := fnD 3 dn_Locks_want
def dn_Locks_give : En → M Fl := sCons (sIf (tBin neD (eMt "Locks" "holder" (eVar 0) fn_Locks_holder (aCons (eVar 2) (aNil))) (eVar 1)) (sRaise "Strange") (sNil)) (sCons (sSet 4 (eMt "Locks" "waiting" (eVar 0) fn_Locks_waiting (aCons (eVar 2) (aNil)))) (sCons (sIf (tOrD (tAndD (tBin isD (eVar 3) (eC .non)) (tBin gtD (eCall lenO (aCons (eVar 4) (aNil))) (eC (.int 0)))) (tAndD (tBin isnD (eVar 3) (eC .non)) (tBin ninD (eVar 3) (eVar 4)))) (sRaise "Unknown") (sNil)) (sCons (sRPut (eFldD "Locks" "owns" (eVar 0)) (eVar 1) (eO (oLc (iA (eMt "Locks" "held" (eVar 0) fn_Locks_held (aCons (eVar 1) (aNil)))) (bName 5) (tBin neD (eVar 5) (eVar 2)) (eVar 5) [5]))) (sCons (sExpr (eRPop (eFldD "Locks" "holders" (eVar 0)) (eVar 2))) (sIf (tBin isnD (eVar 3) (eC .non)) (sCons (sRPut (eFldD "Locks" "lines" (eVar 0)) (eVar 2) (eO (oLc (iA (eVar 4)) (bName 5) (tBin neD (eVar 5) (eVar 3)) (eVar 5) [5]))) (sCons (sExpr (eRPop (eFldD "Locks" "wants" (eVar 0)) (eVar 3))) (sCons (sRPut (eFldD "Locks" "holders" (eVar 0)) (eVar 2) (eVar 3)) (sRPut (eFldD "Locks" "owns" (eVar 0)) (eVar 3) (eBin addD (eMt "Locks" "held" (eVar 0) fn_Locks_held (aCons (eVar 3) (aNil))) (eO (eLst (aCons (eVar 2) (aNil))))))))) (sNil))))))
def fn_Locks_give : Fn := fnD 6 dn_Locks_give
def dn_law_cell_at : En → M Fl := sCons (sIf (tBin ltD (eVar 1) (eCall lenO (aCons (eVar 0) (aNil)))) (sRet (eBin ixD (eVar 0) (eVar 1))) (sNil)) (sRet (eC (.int 0)))
def fn_law_cell_at : Fn := fnD 2 dn_law_cell_at
def dn_law_mixed : En → M Fl := sRet (eBin modD (eBin modD (eBin addD (eBin mulD (eVar 0) (eC (.int 48271))) (eC (.int 12345))) (eC (.int 2147483647))) (eVar 1))
def fn_law_mixed : Fn := fnD 2 dn_law_mixed
def dn_law_name_by : En → M Fl := sCons (sSet 2 (eBin ixD (eC (.str "bcdefghijklmnopqrstuvwxy")) (eBin modD (eVar 0) (eC (.int 24))))) (sCons (sSet 3 (eBin ixD (eC (.str "a0z")) (eBin modD (eBin divD (eVar 0) (eC (.int 24))) (eC (.int 3))))) (sCons (sIf (tBin eqD (eBin modD (eVar 1) (eC (.int 2))) (eC (.int 1))) (sRet (eBin addD (eBin addD (eBin ixD (eO (eLst (aCons (eC (.str "t")) (aCons (eC (.str "ab")) (aCons (eC (.str "x9a")) (aNil)))))) (eBin modD (eBin divD (eVar 1) (eC (.int 2))) (eC (.int 3)))) (eVar 2)) (eVar 3))) (sNil)) (sCons (sSet 4 (eBin modD (eBin divD (eVar 1) (eC (.int 2))) (eC (.int 7)))) (sRet (eBin addD (eBin addD (eBin addD (eBin mulD (eC (.str "a")) (eVar 4)) (eVar 2)) (eVar 3)) (eBin mulD (eC (.str "a")) (eBin subD (eC (.int 6)) (eVar 4))))))))
def fn_law_name_by : Fn := fnD 5 dn_law_name_by
def dn_law_new : En → M Fl := sRet (eK (kDisp (pCons (eC (.str "holder")) (eNewK (kNil)) (pCons (eC (.str "line")) (eNewK (kNil)) (pCons (eC (.str "held")) (eNewK (kNil)) (pCons (eC (.str "want")) (eNewK (kNil)) (pNil)))))))
def fn_law_new : Fn := fnD 0 dn_law_new
def dn_law_ring : En → M Fl := sCons (sSet 3 (eGet1 (eRd (eBin dgetD (eVar 0) (eC (.str "holder")))) (eVar 2))) (sCons (sSet 4 (eO (eLst (aCons (eVar 1) (aNil))))) (sCons (sFor (iR1 (eC (.int 61))) (bName 5) (sCons (sIf (tBin isD (eVar 3) (eC .non)) (sRet (eC .non)) (sNil)) (sCons (sIf (tBin eqD (eVar 3) (eVar 1)) (sRet (eVar 4)) (sNil)) (sCons (sSet 4 (eBin addD (eVar 4) (eO (eLst (aCons (eVar 3) (aNil)))))) (sSet 3 (eGet1 (eRd (eBin dgetD (eVar 0) (eC (.str "holder")))) (eGet1 (eRd (eBin dgetD (eVar 0) (eC (.str "want")))) (eVar 3)))))))) (sRet (eC .non))))
def fn_law_ring : Fn := fnD 6 dn_law_ring
def dn_law_due : En → M Fl := sCons (sPar2 2 3 (aCons (eBin ixD (eVar 1) (eC (.int 1))) (aCons (eBin ixD (eVar 1) (eC (.int 2))) (aNil)))) (sCons (sSet 4 (eGet1 (eRd (eBin dgetD (eVar 0) (eC (.str "holder")))) (eVar 3))) (sCons (sSet 5 (eGet2 (eRd (eBin dgetD (eVar 0) (eC (.str "line")))) (eVar 3) (eO (eLst (aNil))))) (sCons (sIf (tBin eqD (eBin ixD (eVar 1) (eC (.int 0))) (eC (.str "get"))) (sCons (sIf (tBin isnD (eVar 4) (eC .non)) (sRet (eC (.str "taken"))) (sNil)) (sRet (eBin mulD (eC (.str "known")) (eCall intO (aCons (eBin (obl inD) (eVar 2) (eRd (eBin dgetD (eVar 0) (eC (.str "want"))))) (aNil)))))) (sNil)) (sCons (sIf (tBin eqD (eBin ixD (eVar 1) (eC (.int 0))) (eC (.str "want"))) (sCons (sIf (tBin isD (eVar 4) (eC .non)) (sRet (eC (.str "free"))) (sNil)) (sCons (sIf (tBin inD (eVar 2) (eRd (eBin dgetD (eVar 0) (eC (.str "want"))))) (sRet (eC (.str "known"))) (sNil)) (sRet (eBin mulD (eC (.str "knot")) (eCall intO (aCons (eBin (obl isnD) (eFn (fn_law_ring) (aCons (eVar 0) (aCons (eVar 2) (aCons (eVar 3) (aNil))))) (eC .non)) (aNil))))))) (sNil)) (sCons (sIf (tBin neD (eVar 4) (eVar 2)) (sRet (eC (.str "strange"))) (sNil)) (sCons (sIf (tBin isD (eBin ixD (eVar 1) (eC (.int 3))) (eC .non)) (sRet (eBin mulD (eC (.str "unknown")) (eCall intO (aCons (eBin (obl gtD) (eCall lenO (aCons (eVar 5) (aNil))) (eC (.int 0))) (aNil))))) (sNil)) (sRet (eBin mulD (eC (.str "unknown")) (eCall intO (aCons (eBin (obl ninD) (eBin ixD (eVar 1) (eC (.int 3))) (eVar 5)) (aNil)))))))))))
def fn_law_due : Fn := fnD 6 dn_law_due
def dn_law_moved : En → M Fl := sCons (sUnp (eTup (aCons (eBin ixD (eVar 1) (eC (.int 1))) (aCons (eBin ixD (eVar 1) (eC (.int 2))) (aNil)))) (bTup (bCons (bName 2) (bCons (bName 3) (bNil))))) (sIf (tBin eqD (eBin ixD (eVar 1) (eC (.int 0))) (eC (.str "get"))) (sCons (sRPut (eBin dgetD (eVar 0) (eC (.str "holder"))) (eVar 3) (eVar 2)) (sRPut (eBin dgetD (eVar 0) (eC (.str "held"))) (eVar 2) (eBin addD (eGet2 (eRd (eBin dgetD (eVar 0) (eC (.str "held")))) (eVar 2) (eO (eLst (aNil)))) (eO (eLst (aCons (eVar 3) (aNil))))))) (sIf (tBin eqD (eBin ixD (eVar 1) (eC (.int 0))) (eC (.str "want"))) (sCons (sRPut (eBin dgetD (eVar 0) (eC (.str "want"))) (eVar 2) (eVar 3)) (sRPut (eBin dgetD (eVar 0) (eC (.str "line"))) (eVar 3) (eBin addD (eGet2 (eRd (eBin dgetD (eVar 0) (eC (.str "line")))) (eVar 3) (eO (eLst (aNil)))) (eO (eLst (aCons (eVar 2) (aNil))))))) (sCons (sRPut (eBin dgetD (eVar 0) (eC (.str "held"))) (eVar 2) (eO (oLc (iA (eBin dgetD (eRd (eBin dgetD (eVar 0) (eC (.str "held")))) (eVar 2))) (bName 4) (tBin neD (eVar 4) (eVar 3)) (eVar 4) [4]))) (sCons (sExpr (eRPop (eBin dgetD (eVar 0) (eC (.str "holder"))) (eVar 3))) (sIf (tBin isnD (eBin ixD (eVar 1) (eC (.int 3))) (eC .non)) (sCons (sRPut (eBin dgetD (eVar 0) (eC (.str "line"))) (eVar 3) (eO (oLc (iA (eBin dgetD (eRd (eBin dgetD (eVar 0) (eC (.str "line")))) (eVar 3))) (bName 4) (tBin neD (eVar 4) (eBin ixD (eVar 1) (eC (.int 3)))) (eVar 4) [4]))) (sCons (sExpr (eRPop (eBin dgetD (eVar 0) (eC (.str "want"))) (eBin ixD (eVar 1) (eC (.int 3))))) (sCons (sRPut (eBin dgetD (eVar 0) (eC (.str "holder"))) (eVar 3) (eBin ixD (eVar 1) (eC (.int 3)))) (sRPut (eBin dgetD (eVar 0) (eC (.str "held"))) (eBin ixD (eVar 1) (eC (.int 3))) (eBin addD (eGet2 (eRd (eBin dgetD (eVar 0) (eC (.str "held")))) (eBin ixD (eVar 1) (eC (.int 3))) (eO (eLst (aNil)))) (eO (eLst (aCons (eVar 3) (aNil))))))))) (sNil))))))
def fn_law_moved : Fn := fnD 5 dn_law_moved
def dn_law_taken_s1 : En → M Fl := sSet 4 (eTup (aCons (eC (.str "want")) (aCons (eVar 2) (aCons (eVar 3) (aNil)))))
def dn_law_taken_s2 : En → M Fl := sSet 4 (eTup (aCons (eC (.str "get")) (aCons (eVar 2) (aCons (eVar 3) (aNil)))))
def dn_law_taken_s3 : En → M Fl := sIf (tBin ninD (eVar 3) (eRd (eBin dgetD (eVar 1) (eC (.str "holder"))))) (dn_law_taken_s2) (sNil)
def dn_law_taken_s4 : En → M Fl := sSet 5 (eFn (fn_law_due) (aCons (eVar 1) (aCons (eVar 4) (aNil))))
def dn_law_taken_s5 : En → M Fl := sExpr (eFn (fn_law_moved) (aCons (eVar 1) (aCons (eVar 4) (aNil))))
def dn_law_taken_s6 : En → M Fl := sExpr (eMt "Locks" "get" (eVar 0) fn_Locks_get (aCons (eVar 2) (aCons (eVar 3) (aNil))))
def dn_law_taken_s7 : En → M Fl := sExpr (eMt "Locks" "want" (eVar 0) fn_Locks_want (aCons (eVar 2) (aCons (eVar 3) (aNil))))
def dn_law_taken_s8 : En → M Fl := sIf (tBin eqD (eBin ixD (eVar 4) (eC (.int 0))) (eC (.str "get"))) (dn_law_taken_s6) (dn_law_taken_s7)
def dn_law_taken_b9 : En → M Fl := sCons (dn_law_taken_s5) (dn_law_taken_s8)
def dn_law_taken_s10 : En → M Fl := sIf (tBin eqD (eVar 5) (eC (.str ""))) (dn_law_taken_b9) (sNil)
def dn_law_taken : En → M Fl := sCons (dn_law_taken_s1) (sCons (dn_law_taken_s3) (sCons (dn_law_taken_s4) (dn_law_taken_s10)))
def fn_law_taken : Fn := fnD 6 dn_law_taken
theorem dn_law_taken_s1_S (env : En) (S : Store) : dn_law_taken_s1 env S = (sSet 4 (eTup (aCons (eC (.str "want")) (aCons (eVar 2) (aCons (eVar 3) (aNil)))))) env S := rfl
theorem dn_law_taken_s2_S (env : En) (S : Store) : dn_law_taken_s2 env S = (sSet 4 (eTup (aCons (eC (.str "get")) (aCons (eVar 2) (aCons (eVar 3) (aNil)))))) env S := rfl
theorem dn_law_taken_s3_S (env : En) (S : Store) : dn_law_taken_s3 env S = (sIf (tBin ninD (eVar 3) (eRd (eBin dgetD (eVar 1) (eC (.str "holder"))))) (dn_law_taken_s2) (sNil)) env S := rfl
theorem dn_law_taken_s4_S (env : En) (S : Store) : dn_law_taken_s4 env S = (sSet 5 (eFn (fn_law_due) (aCons (eVar 1) (aCons (eVar 4) (aNil))))) env S := rfl
theorem dn_law_taken_s5_S (env : En) (S : Store) : dn_law_taken_s5 env S = (sExpr (eFn (fn_law_moved) (aCons (eVar 1) (aCons (eVar 4) (aNil))))) env S := rfl
theorem dn_law_taken_s6_S (env : En) (S : Store) : dn_law_taken_s6 env S = (sExpr (eMt "Locks" "get" (eVar 0) fn_Locks_get (aCons (eVar 2) (aCons (eVar 3) (aNil))))) env S := rfl
theorem dn_law_taken_s7_S (env : En) (S : Store) : dn_law_taken_s7 env S = (sExpr (eMt "Locks" "want" (eVar 0) fn_Locks_want (aCons (eVar 2) (aCons (eVar 3) (aNil))))) env S := rfl
theorem dn_law_taken_s8_S (env : En) (S : Store) : dn_law_taken_s8 env S = (sIf (tBin eqD (eBin ixD (eVar 4) (eC (.int 0))) (eC (.str "get"))) (dn_law_taken_s6) (dn_law_taken_s7)) env S := rfl
theorem dn_law_taken_b9_S (env : En) (S : Store) : dn_law_taken_b9 env S = (sCons (dn_law_taken_s5) (dn_law_taken_s8)) env S := rfl
theorem dn_law_taken_s10_S (env : En) (S : Store) : dn_law_taken_s10 env S = (sIf (tBin eqD (eVar 5) (eC (.str ""))) (dn_law_taken_b9) (sNil)) env S := rfl
theorem dn_law_taken_S (env : En) (S : Store) : dn_law_taken env S = (sCons (dn_law_taken_s1) (sCons (dn_law_taken_s3) (sCons (dn_law_taken_s4) (dn_law_taken_s10)))) env S := rfl
def dn_law_built_s1 : En → M Fl := sExpr (eFn (fn_law_taken) (aCons (eVar 3) (aCons (eVar 4) (aCons (eBin ixD (eVar 1) (eBin modD (eVar 5) (eCall lenO (aCons (eVar 1) (aNil))))) (aCons (eBin ixD (eVar 2) (eBin modD (eBin divD (eVar 5) (eCall lenO (aCons (eVar 1) (aNil)))) (eCall lenO (aCons (eVar 2) (aNil))))) (aNil))))))
def dn_law_built_s2 : En → M Fl := sFor (iA (eSlA (eVar 0) (oPart (some (eC (.int 4)))) (oPart (some (eC (.int 34)))))) (bName 5) (dn_law_built_s1)
def dn_law_built_s3 : En → M Fl := sExpr (eFn (fn_law_taken) (aCons (eVar 3) (aCons (eVar 4) (aCons (eBin ixD (eVar 1) (eVar 6)) (aCons (eBin ixD (eVar 2) (eBin modD (eVar 6) (eCall lenO (aCons (eVar 2) (aNil))))) (aNil))))))
def dn_law_built_s4 : En → M Fl := sFor (iR1 (eCall lenO (aCons (eVar 1) (aNil)))) (bName 6) (dn_law_built_s3)
def dn_law_built_s5 : En → M Fl := sExpr (eFn (fn_law_taken) (aCons (eVar 3) (aCons (eVar 4) (aCons (eBin ixD (eVar 1) (eBin subD (eVar 6) (eC (.int 1)))) (aCons (eBin ixD (eVar 2) (eBin modD (eBin addD (eVar 6) (eFn (fn_law_cell_at) (aCons (eVar 0) (aCons (eC (.int 4)) (aNil))))) (eCall lenO (aCons (eVar 2) (aNil))))) (aNil))))))
def dn_law_built_s6 : En → M Fl := sFor (iR2 (eC (.int 1)) (eCall lenO (aCons (eVar 1) (aNil)))) (bName 6) (dn_law_built_s5)
def dn_law_built_b7 : En → M Fl := sCons (dn_law_built_s4) (dn_law_built_s6)
def dn_law_built_s8 : En → M Fl := sIf (tBin eqD (eBin modD (eBin divD (eFn (fn_law_cell_at) (aCons (eVar 0) (aCons (eC (.int 0)) (aNil)))) (eC (.int 7))) (eC (.int 6))) (eC (.int 1))) (dn_law_built_b7) (sNil)
def dn_law_built : En → M Fl := sCons (sSet 3 (eMk "Locks" fn_Locks___init__ aNil)) (sCons (sSet 4 (eFn (fn_law_new) aNil)) (sCons (dn_law_built_s2) (sCons (dn_law_built_s8) (sRet (eTup (aCons (eVar 3) (aCons (eVar 4) (aNil))))))))
def fn_law_built : Fn := fnD 7 dn_law_built
theorem dn_law_built_s1_S (env : En) (S : Store) : dn_law_built_s1 env S = (sExpr (eFn (fn_law_taken) (aCons (eVar 3) (aCons (eVar 4) (aCons (eBin ixD (eVar 1) (eBin modD (eVar 5) (eCall lenO (aCons (eVar 1) (aNil))))) (aCons (eBin ixD (eVar 2) (eBin modD (eBin divD (eVar 5) (eCall lenO (aCons (eVar 1) (aNil)))) (eCall lenO (aCons (eVar 2) (aNil))))) (aNil))))))) env S := rfl
theorem dn_law_built_s2_S (env : En) (S : Store) : dn_law_built_s2 env S = (sFor (iA (eSlA (eVar 0) (oPart (some (eC (.int 4)))) (oPart (some (eC (.int 34)))))) (bName 5) (dn_law_built_s1)) env S := rfl
theorem dn_law_built_s3_S (env : En) (S : Store) : dn_law_built_s3 env S = (sExpr (eFn (fn_law_taken) (aCons (eVar 3) (aCons (eVar 4) (aCons (eBin ixD (eVar 1) (eVar 6)) (aCons (eBin ixD (eVar 2) (eBin modD (eVar 6) (eCall lenO (aCons (eVar 2) (aNil))))) (aNil))))))) env S := rfl
theorem dn_law_built_s4_S (env : En) (S : Store) : dn_law_built_s4 env S = (sFor (iR1 (eCall lenO (aCons (eVar 1) (aNil)))) (bName 6) (dn_law_built_s3)) env S := rfl
theorem dn_law_built_s5_S (env : En) (S : Store) : dn_law_built_s5 env S = (sExpr (eFn (fn_law_taken) (aCons (eVar 3) (aCons (eVar 4) (aCons (eBin ixD (eVar 1) (eBin subD (eVar 6) (eC (.int 1)))) (aCons (eBin ixD (eVar 2) (eBin modD (eBin addD (eVar 6) (eFn (fn_law_cell_at) (aCons (eVar 0) (aCons (eC (.int 4)) (aNil))))) (eCall lenO (aCons (eVar 2) (aNil))))) (aNil))))))) env S := rfl
theorem dn_law_built_s6_S (env : En) (S : Store) : dn_law_built_s6 env S = (sFor (iR2 (eC (.int 1)) (eCall lenO (aCons (eVar 1) (aNil)))) (bName 6) (dn_law_built_s5)) env S := rfl
theorem dn_law_built_b7_S (env : En) (S : Store) : dn_law_built_b7 env S = (sCons (dn_law_built_s4) (dn_law_built_s6)) env S := rfl
theorem dn_law_built_s8_S (env : En) (S : Store) : dn_law_built_s8 env S = (sIf (tBin eqD (eBin modD (eBin divD (eFn (fn_law_cell_at) (aCons (eVar 0) (aCons (eC (.int 0)) (aNil)))) (eC (.int 7))) (eC (.int 6))) (eC (.int 1))) (dn_law_built_b7) (sNil)) env S := rfl
theorem dn_law_built_S (env : En) (S : Store) : dn_law_built env S = (sCons (sSet 3 (eMk "Locks" fn_Locks___init__ aNil)) (sCons (sSet 4 (eFn (fn_law_new) aNil)) (sCons (dn_law_built_s2) (sCons (dn_law_built_s8) (sRet (eTup (aCons (eVar 3) (aCons (eVar 4) (aNil))))))))) env S := rfl
def dn_law_many_by : En → M Fl := sCons (sSet 1 (eBin addD (eC (.int 1)) (eBin modD (eVar 0) (eC (.int 7))))) (sCons (sIf (tBin eqD (eBin modD (eBin divD (eVar 0) (eC (.int 7))) (eC (.int 6))) (eC (.int 1))) (sSet 1 (eBin addD (eC (.int 1)) (eBin modD (eBin divD (eVar 0) (eC (.int 42))) (eC (.int 60))))) (sNil)) (sRet (eVar 1)))
def fn_law_many_by : Fn := fnD 2 dn_law_many_by
def dn_law_rank_by : En → M Fl := sCons (sIf (tBin eqD (eBin modD (eVar 0) (eC (.int 3))) (eC (.int 0))) (sRet (eBin ixD (eO (eLst (aCons (eC (.int 0)) (aCons (eC (.int 99)) (aCons (eC (.int 50)) (aCons (eC (.int 50)) (aCons (eC (.int 99)) (aCons (eC (.int 0)) (aNil))))))))) (eFn (fn_law_mixed) (aCons (eBin mulXD (eBin addD (eVar 0) (eBin mulD (eC (.int 7)) (eVar 1))) (eBin addD (eBin addD (eVar 0) (eBin mulD (eC (.int 7)) (eVar 1))) (eC (.int 3)))) (aCons (eC (.int 6)) (aNil)))))) (sNil)) (sRet (eFn (fn_law_mixed) (aCons (eBin mulXD (eBin addD (eVar 0) (eBin mulD (eC (.int 11)) (eVar 1))) (eBin addD (eBin addD (eVar 0) (eBin mulD (eC (.int 11)) (eVar 1))) (eC (.int 1)))) (aCons (eC (.int 100)) (aNil)))))
def fn_law_rank_by : Fn := fnD 2 dn_law_rank_by
def dn_law_lent_s1 : En → M Fl := sSet 5 (eBin dgetD (eRd (eBin dgetD (eVar 0) (eC (.str "holder")))) (eIxF (eBin dgetD (eVar 0) (eC (.str "want"))) (eVar 4)))
def dn_law_lent_s2 : En → M Fl := sRPut (eVar 2) (eVar 5) (eCall maxO (aCons (eBin dgetD (eRd (eVar 2)) (eVar 5)) (aCons (eBin dgetD (eRd (eVar 2)) (eVar 4)) (aNil))))
def dn_law_lent_b3 : En → M Fl := sCons (dn_law_lent_s1) (dn_law_lent_s2)
def dn_law_lent_s4 : En → M Fl := sFor (iKy (eBin dgetD (eVar 0) (eC (.str "want")))) (bName 4) (dn_law_lent_b3)
def dn_law_lent_s5 : En → M Fl := sLk (eBin dgetD (eVar 0) (eC (.str "want"))) (dn_law_lent_s4)
def dn_law_lent_s6 : En → M Fl := sFor (iR1 (eCall lenO (aCons (eRd (eVar 1)) (aNil)))) (bName 3) (dn_law_lent_s5)
def dn_law_lent : En → M Fl := sCons (sSet 2 (eNewK (kCpyK (eVar 1)))) (sCons (dn_law_lent_s6) (sRet (eVar 2)))
def fn_law_lent : Fn := fnD 6 dn_law_lent
theorem dn_law_lent_s1_S (env : En) (S : Store) : dn_law_lent_s1 env S = (sSet 5 (eBin dgetD (eRd (eBin dgetD (eVar 0) (eC (.str "holder")))) (eIxF (eBin dgetD (eVar 0) (eC (.str "want"))) (eVar 4)))) env S := rfl
theorem dn_law_lent_s2_S (env : En) (S : Store) : dn_law_lent_s2 env S = (sRPut (eVar 2) (eVar 5) (eCall maxO (aCons (eBin dgetD (eRd (eVar 2)) (eVar 5)) (aCons (eBin dgetD (eRd (eVar 2)) (eVar 4)) (aNil))))) env S := rfl
theorem dn_law_lent_b3_S (env : En) (S : Store) : dn_law_lent_b3 env S = (sCons (dn_law_lent_s1) (dn_law_lent_s2)) env S := rfl
theorem dn_law_lent_s4_S (env : En) (S : Store) : dn_law_lent_s4 env S = (sFor (iKy (eBin dgetD (eVar 0) (eC (.str "want")))) (bName 4) (dn_law_lent_b3)) env S := rfl
theorem dn_law_lent_s5_S (env : En) (S : Store) : dn_law_lent_s5 env S = (sLk (eBin dgetD (eVar 0) (eC (.str "want"))) (dn_law_lent_s4)) env S := rfl
theorem dn_law_lent_s6_S (env : En) (S : Store) : dn_law_lent_s6 env S = (sFor (iR1 (eCall lenO (aCons (eRd (eVar 1)) (aNil)))) (bName 3) (dn_law_lent_s5)) env S := rfl
theorem dn_law_lent_S (env : En) (S : Store) : dn_law_lent env S = (sCons (sSet 2 (eNewK (kCpyK (eVar 1)))) (sCons (dn_law_lent_s6) (sRet (eVar 2)))) env S := rfl
def dn_law_heir_s1 : En → M Fl := sSet 3 (eFn (fn_law_lent) (aCons (eVar 0) (aCons (eVar 1) (aNil))))
def dn_law_heir_b2 : En → M Fl := sSet 4 (eVar 5)
def dn_law_heir_s3 : En → M Fl := sIf (tOrD (tBin isD (eVar 4) (eC .non)) (tBin gtD (eBin dgetD (eRd (eVar 3)) (eVar 5)) (eBin dgetD (eRd (eVar 3)) (eVar 4)))) (dn_law_heir_b2) (sNil)
def dn_law_heir_s4 : En → M Fl := sFor (iA (eGet2 (eRd (eBin dgetD (eVar 0) (eC (.str "line")))) (eVar 2) (eO (eLst (aNil))))) (bName 5) (dn_law_heir_s3)
def dn_law_heir : En → M Fl := sCons (dn_law_heir_s1) (sCons (sSet 4 (eC .non)) (sCons (dn_law_heir_s4) (sRet (eVar 4))))
def fn_law_heir : Fn := fnD 6 dn_law_heir
theorem dn_law_heir_s1_S (env : En) (S : Store) : dn_law_heir_s1 env S = (sSet 3 (eFn (fn_law_lent) (aCons (eVar 0) (aCons (eVar 1) (aNil))))) env S := rfl
theorem dn_law_heir_b2_S (env : En) (S : Store) : dn_law_heir_b2 env S = (sSet 4 (eVar 5)) env S := rfl
theorem dn_law_heir_s3_S (env : En) (S : Store) : dn_law_heir_s3 env S = (sIf (tOrD (tBin isD (eVar 4) (eC .non)) (tBin gtD (eBin dgetD (eRd (eVar 3)) (eVar 5)) (eBin dgetD (eRd (eVar 3)) (eVar 4)))) (dn_law_heir_b2) (sNil)) env S := rfl
theorem dn_law_heir_s4_S (env : En) (S : Store) : dn_law_heir_s4 env S = (sFor (iA (eGet2 (eRd (eBin dgetD (eVar 0) (eC (.str "line")))) (eVar 2) (eO (eLst (aNil))))) (bName 5) (dn_law_heir_s3)) env S := rfl
theorem dn_law_heir_S (env : En) (S : Store) : dn_law_heir env S = (sCons (dn_law_heir_s1) (sCons (sSet 4 (eC .non)) (sCons (dn_law_heir_s4) (sRet (eVar 4))))) env S := rfl
def dn_law_stays_b1 : En → M Fl := sRet (eC (.bl false))
def dn_law_stays_s2 : En → M Fl := sIf (tOrD (tBin neD (eMt "Locks" "wanted" (eVar 0) fn_Locks_wanted (aCons (eVar 3) (aNil))) (eGet1 (eRd (eBin dgetD (eVar 1) (eC (.str "want")))) (eVar 3))) (tBin neD (eMt "Locks" "held" (eVar 0) fn_Locks_held (aCons (eVar 3) (aNil))) (eGet2 (eRd (eBin dgetD (eVar 1) (eC (.str "held")))) (eVar 3) (eO (eLst (aNil)))))) (dn_law_stays_b1) (sNil)
def dn_law_stays_s3 : En → M Fl := sSet 4 (eGet1 (eRd (eBin dgetD (eVar 1) (eC (.str "want")))) (eVar 3))
def dn_law_stays_b4 : En → M Fl := sRet (eC (.bl false))
def dn_law_stays_s5 : En → M Fl := sIf (tOrD (tBin neD (eMt "Locks" "holder" (eVar 0) fn_Locks_holder (aCons (eVar 4) (aNil))) (eBin dgetD (eRd (eBin dgetD (eVar 1) (eC (.str "holder")))) (eVar 4))) (tBin neD (eMt "Locks" "waiting" (eVar 0) fn_Locks_waiting (aCons (eVar 4) (aNil))) (eBin dgetD (eRd (eBin dgetD (eVar 1) (eC (.str "line")))) (eVar 4)))) (dn_law_stays_b4) (sNil)
def dn_law_stays_b6 : En → M Fl := sCons (dn_law_stays_s2) (sCons (dn_law_stays_s3) (sCons (sIf (tBin isD (eVar 4) (eC .non)) (sCnt) (sNil)) (dn_law_stays_s5)))
def dn_law_stays_s7 : En → M Fl := sFor (iA (eBin addD (eSlA (eVar 2) (oPart none) (oPart (some (eC (.int 6))))) (eSlA (eVar 2) (oPart (some (eNegD (eC (.int 6))))) (oPart none)))) (bName 3) (dn_law_stays_b6)
def dn_law_stays : En → M Fl := sCons (dn_law_stays_s7) (sRet (eC (.bl true)))
def fn_law_stays : Fn := fnD 5 dn_law_stays
theorem dn_law_stays_b1_S (env : En) (S : Store) : dn_law_stays_b1 env S = (sRet (eC (.bl false))) env S := rfl
theorem dn_law_stays_s2_S (env : En) (S : Store) : dn_law_stays_s2 env S = (sIf (tOrD (tBin neD (eMt "Locks" "wanted" (eVar 0) fn_Locks_wanted (aCons (eVar 3) (aNil))) (eGet1 (eRd (eBin dgetD (eVar 1) (eC (.str "want")))) (eVar 3))) (tBin neD (eMt "Locks" "held" (eVar 0) fn_Locks_held (aCons (eVar 3) (aNil))) (eGet2 (eRd (eBin dgetD (eVar 1) (eC (.str "held")))) (eVar 3) (eO (eLst (aNil)))))) (dn_law_stays_b1) (sNil)) env S := rfl
theorem dn_law_stays_s3_S (env : En) (S : Store) : dn_law_stays_s3 env S = (sSet 4 (eGet1 (eRd (eBin dgetD (eVar 1) (eC (.str "want")))) (eVar 3))) env S := rfl
theorem dn_law_stays_b4_S (env : En) (S : Store) : dn_law_stays_b4 env S = (sRet (eC (.bl false))) env S := rfl
theorem dn_law_stays_s5_S (env : En) (S : Store) : dn_law_stays_s5 env S = (sIf (tOrD (tBin neD (eMt "Locks" "holder" (eVar 0) fn_Locks_holder (aCons (eVar 4) (aNil))) (eBin dgetD (eRd (eBin dgetD (eVar 1) (eC (.str "holder")))) (eVar 4))) (tBin neD (eMt "Locks" "waiting" (eVar 0) fn_Locks_waiting (aCons (eVar 4) (aNil))) (eBin dgetD (eRd (eBin dgetD (eVar 1) (eC (.str "line")))) (eVar 4)))) (dn_law_stays_b4) (sNil)) env S := rfl
theorem dn_law_stays_b6_S (env : En) (S : Store) : dn_law_stays_b6 env S = (sCons (dn_law_stays_s2) (sCons (dn_law_stays_s3) (sCons (sIf (tBin isD (eVar 4) (eC .non)) (sCnt) (sNil)) (dn_law_stays_s5)))) env S := rfl
theorem dn_law_stays_s7_S (env : En) (S : Store) : dn_law_stays_s7 env S = (sFor (iA (eBin addD (eSlA (eVar 2) (oPart none) (oPart (some (eC (.int 6))))) (eSlA (eVar 2) (oPart (some (eNegD (eC (.int 6))))) (oPart none)))) (bName 3) (dn_law_stays_b6)) env S := rfl
theorem dn_law_stays_S (env : En) (S : Store) : dn_law_stays env S = (sCons (dn_law_stays_s7) (sRet (eC (.bl true)))) env S := rfl
def dn_law_s1 : En → M Fl := sSet 1 (eFn (fn_law_many_by) (aCons (eFn (fn_law_cell_at) (aCons (eVar 0) (aCons (eC (.int 0)) (aNil)))) (aNil)))
def dn_law_s2 : En → M Fl := sThenFz 3 (sSetO 3 (oLc (iR1 (eVar 1)) (bName 2) (tYesD) (eFn (fn_law_name_by) (aCons (eVar 2) (aCons (eFn (fn_law_cell_at) (aCons (eVar 0) (aCons (eC (.int 1)) (aNil)))) (aNil)))) [2]))
def dn_law_s3 : En → M Fl := sThenFz 4 (sSetO 4 (oLc (iR1 (eVar 1)) (bName 2) (tYesD) (eFn (fn_law_name_by) (aCons (eVar 2) (aCons (eFn (fn_law_cell_at) (aCons (eVar 0) (aCons (eC (.int 2)) (aNil)))) (aNil)))) [2]))
def dn_law_s4 : En → M Fl := sUnp (eFn (fn_law_built) (aCons (eVar 0) (aCons (eVar 3) (aCons (eVar 4) (aNil))))) (bTup (bCons (bName 5) (bCons (bName 6) (bNil))))
def dn_law_s5 : En → M Fl := sRPut (eVar 7) (eBin ixD (eVar 3) (eVar 2)) (eFn (fn_law_rank_by) (aCons (eFn (fn_law_cell_at) (aCons (eVar 0) (aCons (eC (.int 3)) (aNil)))) (aCons (eVar 2) (aNil))))
def dn_law_s6 : En → M Fl := sFor (iR1 (eVar 1)) (bName 2) (dn_law_s5)
def dn_law_s7 : En → M Fl := sRPut (eVar 9) (eBin ixD (eVar 3) (eVar 2)) (eFn (fn_law_rank_by) (aCons (eBin addD (eFn (fn_law_cell_at) (aCons (eVar 0) (aCons (eC (.int 3)) (aNil)))) (eC (.int 1))) (aCons (eVar 2) (aNil))))
def dn_law_s8 : En → M Fl := sFor (iR1 (eVar 1)) (bName 2) (dn_law_s7)
def dn_law_s9 : En → M Fl := sSet 10 (eBin ixD (eVar 4) (eBin modD (eBin addD (eVar 2) (eFn (fn_law_cell_at) (aCons (eVar 0) (aCons (eC (.int 4)) (aNil))))) (eVar 1)))
def dn_law_s10 : En → M Fl := sSet 11 (eFn (fn_law_heir) (aCons (eVar 6) (aCons (eVar 7) (aCons (eVar 10) (aNil)))))
def dn_law_s11 : En → M Fl := sSet 12 (eFn (fn_heir) (aCons (eVar 5) (aCons (eVar 8) (aCons (eVar 10) (aNil)))))
def dn_law_b12 : En → M Fl := sRet (eC (.bl false))
def dn_law_s13 : En → M Fl := sIf (tOrD (tBin neD (eVar 12) (eVar 11)) (tAndD (tBin isnD (eVar 11) (eC .non)) (tNotD (tValD (isiO "str" (eVar 12)))))) (dn_law_b12) (sNil)
def dn_law_b14 : En → M Fl := sRet (eC (.bl false))
def dn_law_s15 : En → M Fl := sIf (tOrD (tBin neD (eFn (fn_heir) (aCons (eVar 5) (aCons (eVar 9) (aCons (eVar 10) (aNil))))) (eFn (fn_law_heir) (aCons (eVar 6) (aCons (eVar 9) (aCons (eVar 10) (aNil)))))) (tBin isnD (eFn (fn_heir) (aCons (eMk "Locks" fn_Locks___init__ aNil) (aCons (eVar 8) (aCons (eVar 10) (aNil))))) (eC .non))) (dn_law_b14) (sNil)
def dn_law_s16 : En → M Fl := sSet 13 (eGet1 (eRd (eBin dgetD (eVar 6) (eC (.str "holder")))) (eVar 10))
def dn_law_s17 : En → M Fl := sExpr (eMt "Locks" "give" (eVar 5) fn_Locks_give (aCons (eVar 13) (aCons (eVar 10) (aCons (eVar 12) (aNil)))))
def dn_law_s18 : En → M Fl := sExpr (eFn (fn_law_moved) (aCons (eVar 6) (aCons (eTup (aCons (eC (.str "give")) (aCons (eVar 13) (aCons (eVar 10) (aCons (eVar 11) (aNil)))))) (aNil))))
def dn_law_b19 : En → M Fl := sCons (dn_law_s17) (dn_law_s18)
def dn_law_s20 : En → M Fl := sIf (tBin isnD (eVar 13) (eC .non)) (dn_law_b19) (sNil)
def dn_law_s21 : En → M Fl := sRPut (eVar 14) (eVar 15) (eBin dgetD (eRd (eVar 7)) (eVar 15))
def dn_law_s22 : En → M Fl := sFor (iA (eBin addD (eO (oValsK (eBin dgetD (eVar 6) (eC (.str "holder"))))) (eO (oKeysF (eRd (eBin dgetD (eVar 6) (eC (.str "want")))))))) (bName 15) (dn_law_s21)
def dn_law_b23 : En → M Fl := sRet (eC (.bl false))
def dn_law_s24 : En → M Fl := sIf (tOrD (tBin neD (eFn (fn_heir) (aCons (eVar 5) (aCons (eVar 14) (aCons (eVar 10) (aNil))))) (eFn (fn_law_heir) (aCons (eVar 6) (aCons (eVar 7) (aCons (eVar 10) (aNil)))))) (tNotD (tValD (eFn (fn_law_stays) (aCons (eVar 5) (aCons (eVar 6) (aCons (eVar 3) (aNil)))))))) (dn_law_b23) (sNil)
def dn_law_b25 : En → M Fl := sCons (dn_law_s9) (sCons (dn_law_s10) (sCons (dn_law_s11) (sCons (dn_law_s13) (sCons (dn_law_s15) (sCons (dn_law_s16) (sCons (dn_law_s20) (sCons (sSet 14 (eNewK (kNil))) (sCons (dn_law_s22) (dn_law_s24)))))))))
def dn_law_s26 : En → M Fl := sFor (iR1 (eCall minO (aCons (eC (.int 12)) (aCons (eBin mulD (eC (.int 2)) (eVar 1)) (aNil))))) (bName 2) (dn_law_b25)
def dn_law_b27 : En → M Fl := sRet (eC (.bl false))
def dn_law_s28 : En → M Fl := sIf (tNeKK (eVar 8) (eVar 7)) (dn_law_b27) (sNil)
def dn_law_s29 : En → M Fl := sRPut (eVar 8) (eVar 16) (eBin dgetD (eRd (eVar 9)) (eVar 16))
def dn_law_s30 : En → M Fl := sFor (iA (eVar 3)) (bName 16) (dn_law_s29)
def dn_law_s31 : En → M Fl := sRet (eBin (obl eqD) (eFn (fn_heir) (aCons (eVar 5) (aCons (eVar 8) (aCons (eBin ixD (eVar 4) (eC (.int 0))) (aNil))))) (eFn (fn_law_heir) (aCons (eVar 6) (aCons (eVar 9) (aCons (eBin ixD (eVar 4) (eC (.int 0))) (aNil))))))
def dn_law : En → M Fl := sCons (dn_law_s1) (sCons (dn_law_s2) (sCons (dn_law_s3) (sCons (dn_law_s4) (sCons (sSet 7 (eNewK (kNil))) (sCons (dn_law_s6) (sCons (sSet 8 (eNewK (kCpyK (eVar 7)))) (sCons (sSet 9 (eNewK (kNil))) (sCons (dn_law_s8) (sCons (dn_law_s26) (sCons (dn_law_s28) (sCons (dn_law_s30) (dn_law_s31))))))))))))
def fn_law : Fn := fnD 17 dn_law
theorem dn_law_s1_S (env : En) (S : Store) : dn_law_s1 env S = (sSet 1 (eFn (fn_law_many_by) (aCons (eFn (fn_law_cell_at) (aCons (eVar 0) (aCons (eC (.int 0)) (aNil)))) (aNil)))) env S := rfl
theorem dn_law_s2_S (env : En) (S : Store) : dn_law_s2 env S = (sThenFz 3 (sSetO 3 (oLc (iR1 (eVar 1)) (bName 2) (tYesD) (eFn (fn_law_name_by) (aCons (eVar 2) (aCons (eFn (fn_law_cell_at) (aCons (eVar 0) (aCons (eC (.int 1)) (aNil)))) (aNil)))) [2]))) env S := rfl
theorem dn_law_s3_S (env : En) (S : Store) : dn_law_s3 env S = (sThenFz 4 (sSetO 4 (oLc (iR1 (eVar 1)) (bName 2) (tYesD) (eFn (fn_law_name_by) (aCons (eVar 2) (aCons (eFn (fn_law_cell_at) (aCons (eVar 0) (aCons (eC (.int 2)) (aNil)))) (aNil)))) [2]))) env S := rfl
theorem dn_law_s4_S (env : En) (S : Store) : dn_law_s4 env S = (sUnp (eFn (fn_law_built) (aCons (eVar 0) (aCons (eVar 3) (aCons (eVar 4) (aNil))))) (bTup (bCons (bName 5) (bCons (bName 6) (bNil))))) env S := rfl
theorem dn_law_s5_S (env : En) (S : Store) : dn_law_s5 env S = (sRPut (eVar 7) (eBin ixD (eVar 3) (eVar 2)) (eFn (fn_law_rank_by) (aCons (eFn (fn_law_cell_at) (aCons (eVar 0) (aCons (eC (.int 3)) (aNil)))) (aCons (eVar 2) (aNil))))) env S := rfl
theorem dn_law_s6_S (env : En) (S : Store) : dn_law_s6 env S = (sFor (iR1 (eVar 1)) (bName 2) (dn_law_s5)) env S := rfl
theorem dn_law_s7_S (env : En) (S : Store) : dn_law_s7 env S = (sRPut (eVar 9) (eBin ixD (eVar 3) (eVar 2)) (eFn (fn_law_rank_by) (aCons (eBin addD (eFn (fn_law_cell_at) (aCons (eVar 0) (aCons (eC (.int 3)) (aNil)))) (eC (.int 1))) (aCons (eVar 2) (aNil))))) env S := rfl
theorem dn_law_s8_S (env : En) (S : Store) : dn_law_s8 env S = (sFor (iR1 (eVar 1)) (bName 2) (dn_law_s7)) env S := rfl
theorem dn_law_s9_S (env : En) (S : Store) : dn_law_s9 env S = (sSet 10 (eBin ixD (eVar 4) (eBin modD (eBin addD (eVar 2) (eFn (fn_law_cell_at) (aCons (eVar 0) (aCons (eC (.int 4)) (aNil))))) (eVar 1)))) env S := rfl
theorem dn_law_s10_S (env : En) (S : Store) : dn_law_s10 env S = (sSet 11 (eFn (fn_law_heir) (aCons (eVar 6) (aCons (eVar 7) (aCons (eVar 10) (aNil)))))) env S := rfl
theorem dn_law_s11_S (env : En) (S : Store) : dn_law_s11 env S = (sSet 12 (eFn (fn_heir) (aCons (eVar 5) (aCons (eVar 8) (aCons (eVar 10) (aNil)))))) env S := rfl
theorem dn_law_b12_S (env : En) (S : Store) : dn_law_b12 env S = (sRet (eC (.bl false))) env S := rfl
theorem dn_law_s13_S (env : En) (S : Store) : dn_law_s13 env S = (sIf (tOrD (tBin neD (eVar 12) (eVar 11)) (tAndD (tBin isnD (eVar 11) (eC .non)) (tNotD (tValD (isiO "str" (eVar 12)))))) (dn_law_b12) (sNil)) env S := rfl
theorem dn_law_b14_S (env : En) (S : Store) : dn_law_b14 env S = (sRet (eC (.bl false))) env S := rfl
theorem dn_law_s15_S (env : En) (S : Store) : dn_law_s15 env S = (sIf (tOrD (tBin neD (eFn (fn_heir) (aCons (eVar 5) (aCons (eVar 9) (aCons (eVar 10) (aNil))))) (eFn (fn_law_heir) (aCons (eVar 6) (aCons (eVar 9) (aCons (eVar 10) (aNil)))))) (tBin isnD (eFn (fn_heir) (aCons (eMk "Locks" fn_Locks___init__ aNil) (aCons (eVar 8) (aCons (eVar 10) (aNil))))) (eC .non))) (dn_law_b14) (sNil)) env S := rfl
theorem dn_law_s16_S (env : En) (S : Store) : dn_law_s16 env S = (sSet 13 (eGet1 (eRd (eBin dgetD (eVar 6) (eC (.str "holder")))) (eVar 10))) env S := rfl
theorem dn_law_s17_S (env : En) (S : Store) : dn_law_s17 env S = (sExpr (eMt "Locks" "give" (eVar 5) fn_Locks_give (aCons (eVar 13) (aCons (eVar 10) (aCons (eVar 12) (aNil)))))) env S := rfl
theorem dn_law_s18_S (env : En) (S : Store) : dn_law_s18 env S = (sExpr (eFn (fn_law_moved) (aCons (eVar 6) (aCons (eTup (aCons (eC (.str "give")) (aCons (eVar 13) (aCons (eVar 10) (aCons (eVar 11) (aNil)))))) (aNil))))) env S := rfl
theorem dn_law_b19_S (env : En) (S : Store) : dn_law_b19 env S = (sCons (dn_law_s17) (dn_law_s18)) env S := rfl
theorem dn_law_s20_S (env : En) (S : Store) : dn_law_s20 env S = (sIf (tBin isnD (eVar 13) (eC .non)) (dn_law_b19) (sNil)) env S := rfl
theorem dn_law_s21_S (env : En) (S : Store) : dn_law_s21 env S = (sRPut (eVar 14) (eVar 15) (eBin dgetD (eRd (eVar 7)) (eVar 15))) env S := rfl
theorem dn_law_s22_S (env : En) (S : Store) : dn_law_s22 env S = (sFor (iA (eBin addD (eO (oValsK (eBin dgetD (eVar 6) (eC (.str "holder"))))) (eO (oKeysF (eRd (eBin dgetD (eVar 6) (eC (.str "want")))))))) (bName 15) (dn_law_s21)) env S := rfl
theorem dn_law_b23_S (env : En) (S : Store) : dn_law_b23 env S = (sRet (eC (.bl false))) env S := rfl
theorem dn_law_s24_S (env : En) (S : Store) : dn_law_s24 env S = (sIf (tOrD (tBin neD (eFn (fn_heir) (aCons (eVar 5) (aCons (eVar 14) (aCons (eVar 10) (aNil))))) (eFn (fn_law_heir) (aCons (eVar 6) (aCons (eVar 7) (aCons (eVar 10) (aNil)))))) (tNotD (tValD (eFn (fn_law_stays) (aCons (eVar 5) (aCons (eVar 6) (aCons (eVar 3) (aNil)))))))) (dn_law_b23) (sNil)) env S := rfl
theorem dn_law_b25_S (env : En) (S : Store) : dn_law_b25 env S = (sCons (dn_law_s9) (sCons (dn_law_s10) (sCons (dn_law_s11) (sCons (dn_law_s13) (sCons (dn_law_s15) (sCons (dn_law_s16) (sCons (dn_law_s20) (sCons (sSet 14 (eNewK (kNil))) (sCons (dn_law_s22) (dn_law_s24)))))))))) env S := rfl
theorem dn_law_s26_S (env : En) (S : Store) : dn_law_s26 env S = (sFor (iR1 (eCall minO (aCons (eC (.int 12)) (aCons (eBin mulD (eC (.int 2)) (eVar 1)) (aNil))))) (bName 2) (dn_law_b25)) env S := rfl
theorem dn_law_b27_S (env : En) (S : Store) : dn_law_b27 env S = (sRet (eC (.bl false))) env S := rfl
theorem dn_law_s28_S (env : En) (S : Store) : dn_law_s28 env S = (sIf (tNeKK (eVar 8) (eVar 7)) (dn_law_b27) (sNil)) env S := rfl
theorem dn_law_s29_S (env : En) (S : Store) : dn_law_s29 env S = (sRPut (eVar 8) (eVar 16) (eBin dgetD (eRd (eVar 9)) (eVar 16))) env S := rfl
theorem dn_law_s30_S (env : En) (S : Store) : dn_law_s30 env S = (sFor (iA (eVar 3)) (bName 16) (dn_law_s29)) env S := rfl
theorem dn_law_s31_S (env : En) (S : Store) : dn_law_s31 env S = (sRet (eBin (obl eqD) (eFn (fn_heir) (aCons (eVar 5) (aCons (eVar 8) (aCons (eBin ixD (eVar 4) (eC (.int 0))) (aNil))))) (eFn (fn_law_heir) (aCons (eVar 6) (aCons (eVar 9) (aCons (eBin ixD (eVar 4) (eC (.int 0))) (aNil))))))) env S := rfl
theorem dn_law_S (env : En) (S : Store) : dn_law env S = (sCons (dn_law_s1) (sCons (dn_law_s2) (sCons (dn_law_s3) (sCons (dn_law_s4) (sCons (sSet 7 (eNewK (kNil))) (sCons (dn_law_s6) (sCons (sSet 8 (eNewK (kCpyK (eVar 7)))) (sCons (sSet 9 (eNewK (kNil))) (sCons (dn_law_s8) (sCons (dn_law_s26) (sCons (dn_law_s28) (sCons (dn_law_s30) (dn_law_s31))))))))))))) env S := rfl
/-! ### what the top leaves -/
structure Tx (K : PySem.W.Frag) (mg : Str → Option Value) where
  ad : Str → Addr
  f_Locks_held : Addr
  d_Locks_held : FuncData
  F_Locks_held : Fun K "held" "Locks.held" st_Locks_held f_Locks_held d_Locks_held
  b_Locks_held : Binds K d_Locks_held ["self", "name"] []
  f_Locks_waiting : Addr
  d_Locks_waiting : FuncData
  F_Locks_waiting : Fun K "waiting" "Locks.waiting" st_Locks_waiting f_Locks_waiting d_Locks_waiting
  b_Locks_waiting : Binds K d_Locks_waiting ["self", "lock"] []
  f_waiters : Addr
  d_waiters : FuncData
  F_waiters : Fun K "waiters" "waiters" st_waiters f_waiters d_waiters
  m_waiters : mg "waiters" = some (.ref f_waiters)
  b_waiters : Binds K d_waiters ["locks", "name"] []
  f_lent : Addr
  d_lent : FuncData
  F_lent : Fun K "lent" "lent" st_lent f_lent d_lent
  m_lent : mg "lent" = some (.ref f_lent)
  b_lent : Binds K d_lent ["locks", "ranks", "name"] []
  f_heir : Addr
  d_heir : FuncData
  F_heir : Fun K "heir" "heir" st_heir f_heir d_heir
  m_heir : mg "heir" = some (.ref f_heir)
  b_heir : Binds K d_heir ["locks", "ranks", "lock"] []
  f_Locks_holder : Addr
  d_Locks_holder : FuncData
  F_Locks_holder : Fun K "holder" "Locks.holder" st_Locks_holder f_Locks_holder d_Locks_holder
  b_Locks_holder : Binds K d_Locks_holder ["self", "lock"] []
  f_Locks_wanted : Addr
  d_Locks_wanted : FuncData
  F_Locks_wanted : Fun K "wanted" "Locks.wanted" st_Locks_wanted f_Locks_wanted d_Locks_wanted
  b_Locks_wanted : Binds K d_Locks_wanted ["self", "name"] []
  f_arrow : Addr
  d_arrow : FuncData
  F_arrow : Fun K "arrow" "arrow" st_arrow f_arrow d_arrow
  m_arrow : mg "arrow" = some (.ref f_arrow)
  b_arrow : Binds K d_arrow ["locks", "name"] []
  f_ring : Addr
  d_ring : FuncData
  F_ring : Fun K "ring" "ring" st_ring f_ring d_ring
  m_ring : mg "ring" = some (.ref f_ring)
  b_ring : Binds K d_ring ["locks", "name", "lock"] []
  f_Locks___init__ : Addr
  d_Locks___init__ : FuncData
  F_Locks___init__ : Fun K "__init__" "Locks.__init__" st_Locks___init__ f_Locks___init__ d_Locks___init__
  b_Locks___init__ : Binds K d_Locks___init__ ["self"] []
  f_Locks_get : Addr
  d_Locks_get : FuncData
  F_Locks_get : Fun K "get" "Locks.get" st_Locks_get f_Locks_get d_Locks_get
  b_Locks_get : Binds K d_Locks_get ["self", "name", "lock"] []
  f_Locks_want : Addr
  d_Locks_want : FuncData
  F_Locks_want : Fun K "want" "Locks.want" st_Locks_want f_Locks_want d_Locks_want
  b_Locks_want : Binds K d_Locks_want ["self", "name", "lock"] []
  f_Locks_give : Addr
  d_Locks_give : FuncData
  F_Locks_give : Fun K "give" "Locks.give" st_Locks_give f_Locks_give d_Locks_give
  b_Locks_give : Binds K d_Locks_give ["self", "name", "lock", "heir"] []
  f_law_cell_at : Addr
  d_law_cell_at : FuncData
  F_law_cell_at : Fun K "_law_cell_at" "_law_cell_at" st_law_cell_at f_law_cell_at d_law_cell_at
  m_law_cell_at : mg "_law_cell_at" = some (.ref f_law_cell_at)
  b_law_cell_at : Binds K d_law_cell_at ["script", "k"] []
  f_law_mixed : Addr
  d_law_mixed : FuncData
  F_law_mixed : Fun K "_law_mixed" "_law_mixed" st_law_mixed f_law_mixed d_law_mixed
  m_law_mixed : mg "_law_mixed" = some (.ref f_law_mixed)
  b_law_mixed : Binds K d_law_mixed ["cell", "many"] []
  f_law_name_by : Addr
  d_law_name_by : FuncData
  F_law_name_by : Fun K "_law_name_by" "_law_name_by" st_law_name_by f_law_name_by d_law_name_by
  m_law_name_by : mg "_law_name_by" = some (.ref f_law_name_by)
  b_law_name_by : Binds K d_law_name_by ["k", "cell"] []
  f_law_new : Addr
  d_law_new : FuncData
  F_law_new : Fun K "_law_new" "_law_new" st_law_new f_law_new d_law_new
  m_law_new : mg "_law_new" = some (.ref f_law_new)
  b_law_new : Binds K d_law_new [] []
  f_law_ring : Addr
  d_law_ring : FuncData
  F_law_ring : Fun K "_law_ring" "_law_ring" st_law_ring f_law_ring d_law_ring
  m_law_ring : mg "_law_ring" = some (.ref f_law_ring)
  b_law_ring : Binds K d_law_ring ["state", "name", "lock"] []
  f_law_due : Addr
  d_law_due : FuncData
  F_law_due : Fun K "_law_due" "_law_due" st_law_due f_law_due d_law_due
  m_law_due : mg "_law_due" = some (.ref f_law_due)
  b_law_due : Binds K d_law_due ["state", "deed"] []
  f_law_moved : Addr
  d_law_moved : FuncData
  F_law_moved : Fun K "_law_moved" "_law_moved" st_law_moved f_law_moved d_law_moved
  m_law_moved : mg "_law_moved" = some (.ref f_law_moved)
  b_law_moved : Binds K d_law_moved ["state", "deed"] []
  f_law_taken : Addr
  d_law_taken : FuncData
  F_law_taken : Fun K "_law_taken" "_law_taken" st_law_taken f_law_taken d_law_taken
  m_law_taken : mg "_law_taken" = some (.ref f_law_taken)
  b_law_taken : Binds K d_law_taken ["locks", "state", "name", "lock"] []
  f_law_built : Addr
  d_law_built : FuncData
  F_law_built : Fun K "_law_built" "_law_built" st_law_built f_law_built d_law_built
  m_law_built : mg "_law_built" = some (.ref f_law_built)
  b_law_built : Binds K d_law_built ["script", "names", "some"] []
  f_law_many_by : Addr
  d_law_many_by : FuncData
  F_law_many_by : Fun K "_law_many_by" "_law_many_by" st_law_many_by f_law_many_by d_law_many_by
  m_law_many_by : mg "_law_many_by" = some (.ref f_law_many_by)
  b_law_many_by : Binds K d_law_many_by ["cell"] []
  f_law_rank_by : Addr
  d_law_rank_by : FuncData
  F_law_rank_by : Fun K "_law_rank_by" "_law_rank_by" st_law_rank_by f_law_rank_by d_law_rank_by
  m_law_rank_by : mg "_law_rank_by" = some (.ref f_law_rank_by)
  b_law_rank_by : Binds K d_law_rank_by ["cell", "k"] []
  f_law_lent : Addr
  d_law_lent : FuncData
  F_law_lent : Fun K "_law_lent" "_law_lent" st_law_lent f_law_lent d_law_lent
  m_law_lent : mg "_law_lent" = some (.ref f_law_lent)
  b_law_lent : Binds K d_law_lent ["state", "ranks"] []
  f_law_heir : Addr
  d_law_heir : FuncData
  F_law_heir : Fun K "_law_heir" "_law_heir" st_law_heir f_law_heir d_law_heir
  m_law_heir : mg "_law_heir" = some (.ref f_law_heir)
  b_law_heir : Binds K d_law_heir ["state", "ranks", "lock"] []
  f_law_stays : Addr
  d_law_stays : FuncData
  F_law_stays : Fun K "_law_stays" "_law_stays" st_law_stays f_law_stays d_law_stays
  m_law_stays : mg "_law_stays" = some (.ref f_law_stays)
  b_law_stays : Binds K d_law_stays ["locks", "state", "names"] []
  f_law : Addr
  d_law : FuncData
  F_law : Fun K "law" "law" st_law f_law d_law
  m_law : mg "law" = some (.ref f_law)
  b_law : Binds K d_law ["script"] []
  n_dict : mg "dict" = none
  n_int : mg "int" = none
  n_isinstance : mg "isinstance" = none
  n_len : mg "len" = none
  n_list : mg "list" = none
  n_max : mg "max" = none
  n_min : mg "min" = none
  n_range : mg "range" = none
  n_str : mg "str" = none
  cl_Locks : Cls K (ad "Locks")
  nf_holders : NoAttr K (ad "Locks") "holders"
  nf_lines : NoAttr K (ad "Locks") "lines"
  nf_owns : NoAttr K (ad "Locks") "owns"
  nf_wants : NoAttr K (ad "Locks") "wants"
  me_Locks_held : Meth K (ad "Locks") "held" f_Locks_held
  me_Locks_waiting : Meth K (ad "Locks") "waiting" f_Locks_waiting
  me_Locks_holder : Meth K (ad "Locks") "holder" f_Locks_holder
  me_Locks_wanted : Meth K (ad "Locks") "wanted" f_Locks_wanted
  me_Locks_get : Meth K (ad "Locks") "get" f_Locks_get
  me_Locks_want : Meth K (ad "Locks") "want" f_Locks_want
  me_Locks_give : Meth K (ad "Locks") "give" f_Locks_give
  mk_Locks : Mk K (ad "Locks") f_Locks___init__
  mg_Locks : mg "Locks" = some (.ref (ad "Locks"))
  ex_Known : ExOk K mg "Known" (ad "Known")
  ex_Unknown : ExOk K mg "Unknown" (ad "Unknown")
  ex_Taken : ExOk K mg "Taken" (ad "Taken")
  ex_Free : ExOk K mg "Free" (ad "Free")
  ex_Knot : ExOk K mg "Knot" (ad "Knot")
  ex_Strange : ExOk K mg "Strange" (ad "Strange")
section
variable {K : PySem.W.Frag} {mg : Str → Option Value}
def Tx.ca (T : Tx K mg) : Ct := ⟨T.ad, K⟩
set_option maxRecDepth 100000 in
theorem Tx.G_Locks_held (T : Tx K mg) (P : Program) (w : World) (base : Heap) : FnD P w K mg base 1 T.f_Locks_held T.d_Locks_held ["self", "name"] true T.ca fn_Locks_held := by
  have sc := sc_Locks_held
  refine fn_mkD T.F_Locks_held sc (fun cdv A outer s H E hr tk hp => ?_)
  exact dss_one (ds_retO (do_listF (DE.b (de_get2 hr.units (db_rd (de_fldD T.cl_Locks T.nf_owns (de_var 0))) (DE.b (de_var 1)) (de_own (do_lst (da_nil))))) rfl rfl T.n_list))
set_option maxRecDepth 100000 in
theorem Tx.G_Locks_waiting (T : Tx K mg) (P : Program) (w : World) (base : Heap) : FnD P w K mg base 1 T.f_Locks_waiting T.d_Locks_waiting ["self", "lock"] true T.ca fn_Locks_waiting := by
  have sc := sc_Locks_waiting
  refine fn_mkD T.F_Locks_waiting sc (fun cdv A outer s H E hr tk hp => ?_)
  exact dss_one (ds_retO (do_listF (DE.b (de_get2 hr.units (db_rd (de_fldD T.cl_Locks T.nf_lines (de_var 0))) (DE.b (de_var 1)) (de_own (do_lst (da_nil))))) rfl rfl T.n_list))
set_option maxRecDepth 100000 in
theorem Tx.G_waiters (T : Tx K mg) (P : Program) (w : World) (base : Heap) : FnD P w K mg base 2 T.f_waiters T.d_waiters ["locks", "name"] true T.ca fn_waiters := by
  have sc := sc_waiters
  refine fn_mkD T.F_waiters sc (fun cdv A outer s H E hr tk hp => ?_)
  exact dss_cons (ds_setO 2 sc.nd rfl (by first | exact Or.inl rfl | exact Or.inr rfl) (do_lst (da_nil))) (dss_cons (ds_for hp rfl (di_any (de_mt (de_var 0) T.cl_Locks T.me_Locks_held (T.G_Locks_held P w base) (fun z => z) rfl (hr.mono (by decide)) T.b_Locks_held tk (da_cons (de_var 1) (da_nil)) (aCons_len (aNil_len)))) (dg_name 3 sc.nd rfl (by first | exact Or.inl rfl | exact Or.inr rfl)) (dss_one (ds_ext 2 (de_mt (de_var 0) T.cl_Locks T.me_Locks_waiting (T.G_Locks_waiting P w base) (fun z => z) rfl (hr.mono (by decide)) T.b_Locks_waiting tk (da_cons (de_var 3) (da_nil)) (aCons_len (aNil_len)))))) (dss_one (ds_retV 2)))
set_option maxRecDepth 100000 in
theorem Tx.GN_lent (T : Tx K mg) (P : Program) (w : World) (base : Heap) : ∀ n : Nat, FnD P w K mg base (3 + n) T.f_lent T.d_lent ["locks", "ranks", "name"] true T.ca (fnN_lent n)
  | 0 => fn_bad
  | n + 1 => by
    have IH := Tx.GN_lent T P w base n
    have sc := sc_lent
    refine fn_mkD (k := 3 + n) T.F_lent sc (fun cdv A outer s H E hr tk hp => ?_)
    exact dss_cons (ds_set 3 sc.nd rfl (by first | exact Or.inl rfl | exact Or.inr rfl) (de_dget hr.units (db_rd (de_var 1)) (DE.b (de_var 2)))) (dss_cons (ds_for hp rfl (di_any (de_call (T.G_waiters P w base) (fun z => z) rfl (hr.mono (by omega)) T.m_waiters T.F_waiters.kp T.b_waiters tk (da_cons (de_var 0) (da_cons (de_var 2) (da_nil))) (aCons_len (aCons_len (aNil_len))))) (dg_name 4 sc.nd rfl (by first | exact Or.inl rfl | exact Or.inr rfl)) (dss_one (ds_set 3 sc.nd rfl (by first | exact Or.inl rfl | exact Or.inr rfl) (de_max2 rfl (DE.b (de_var 3)) (DE.b (de_call IH (fun z => z) rfl hr T.m_lent T.F_lent.kp T.b_lent tk (da_cons (de_var 0) (da_cons (de_var 1) (da_cons (de_var 4) (da_nil)))) (aCons_len (aCons_len (aCons_len (aNil_len)))))) rfl rfl T.n_max)))) (dss_one (ds_ret (de_var 3))))
theorem Tx.G_lent (T : Tx K mg) (P : Program) (w : World) (base : Heap) : FnD P w K mg base 73 T.f_lent T.d_lent ["locks", "ranks", "name"] true T.ca fn_lent := T.GN_lent P w base 70
set_option maxRecDepth 100000 in
theorem Tx.G_heir (T : Tx K mg) (P : Program) (w : World) (base : Heap) : FnD P w K mg base 74 T.f_heir T.d_heir ["locks", "ranks", "lock"] true T.ca fn_heir := by
  have sc := sc_heir
  refine fn_mkD T.F_heir sc (fun cdv A outer s H E hr tk hp => ?_)
  exact dss_cons (ds_set 3 sc.nd rfl (by first | exact Or.inl rfl | exact Or.inr rfl) (de_non)) (dss_cons (ds_set 4 sc.nd rfl (by first | exact Or.inl rfl | exact Or.inr rfl) (de_neg (de_int))) (dss_cons (ds_for hp rfl (di_any (de_mt (de_var 0) T.cl_Locks T.me_Locks_waiting (T.G_Locks_waiting P w base) (fun z => z) rfl (hr.mono (by decide)) T.b_Locks_waiting tk (da_cons (de_var 2) (da_nil)) (aCons_len (aNil_len)))) (dg_name 5 sc.nd rfl (by first | exact Or.inl rfl | exact Or.inr rfl)) (dss_cons (ds_set 6 sc.nd rfl (by first | exact Or.inl rfl | exact Or.inr rfl) (de_call (T.G_lent P w base) (fun z => z) rfl (hr.mono (by decide)) T.m_lent T.F_lent.kp T.b_lent tk (da_cons (de_var 0) (da_cons (de_var 1) (da_cons (de_var 5) (da_nil)))) (aCons_len (aCons_len (aCons_len (aNil_len)))))) (dss_one (ds_if (dt_gt (DE.b (de_var 6)) (DE.b (de_var 4))) (dss_cons (ds_set 4 sc.nd rfl (by first | exact Or.inl rfl | exact Or.inr rfl) (de_var 6)) (dss_one (ds_set 3 sc.nd rfl (by first | exact Or.inl rfl | exact Or.inr rfl) (de_var 5)))) (dss_nil))))) (dss_one (ds_ret (de_var 3)))))
set_option maxRecDepth 100000 in
theorem Tx.G_Locks_holder (T : Tx K mg) (P : Program) (w : World) (base : Heap) : FnD P w K mg base 1 T.f_Locks_holder T.d_Locks_holder ["self", "lock"] true T.ca fn_Locks_holder := by
  have sc := sc_Locks_holder
  refine fn_mkD T.F_Locks_holder sc (fun cdv A outer s H E hr tk hp => ?_)
  exact dss_one (ds_ret (de_get1 hr.units (db_rd (de_fldD T.cl_Locks T.nf_holders (de_var 0))) (DE.b (de_var 1))))
set_option maxRecDepth 100000 in
theorem Tx.G_Locks_wanted (T : Tx K mg) (P : Program) (w : World) (base : Heap) : FnD P w K mg base 1 T.f_Locks_wanted T.d_Locks_wanted ["self", "name"] true T.ca fn_Locks_wanted := by
  have sc := sc_Locks_wanted
  refine fn_mkD T.F_Locks_wanted sc (fun cdv A outer s H E hr tk hp => ?_)
  exact dss_one (ds_ret (de_get1 hr.units (db_rd (de_fldD T.cl_Locks T.nf_wants (de_var 0))) (DE.b (de_var 1))))
set_option maxRecDepth 100000 in
theorem Tx.G_arrow (T : Tx K mg) (P : Program) (w : World) (base : Heap) : FnD P w K mg base 2 T.f_arrow T.d_arrow ["locks", "name"] true T.ca fn_arrow := by
  have sc := sc_arrow
  refine fn_mkD T.F_arrow sc (fun cdv A outer s H E hr tk hp => ?_)
  exact dss_cons (ds_set 2 sc.nd rfl (by first | exact Or.inl rfl | exact Or.inr rfl) (de_mt (de_var 0) T.cl_Locks T.me_Locks_wanted (T.G_Locks_wanted P w base) (fun z => z) rfl (hr.mono (by decide)) T.b_Locks_wanted tk (da_cons (de_var 1) (da_nil)) (aCons_len (aNil_len)))) (dss_cons (ds_if (dt_is (DE.b (de_var 2)) (DE.b (de_non))) (dss_one (ds_ret (de_non))) (dss_nil)) (dss_one (ds_ret (de_mt (de_var 0) T.cl_Locks T.me_Locks_holder (T.G_Locks_holder P w base) (fun z => z) rfl (hr.mono (by decide)) T.b_Locks_holder tk (da_cons (de_var 2) (da_nil)) (aCons_len (aNil_len))))))
set_option maxRecDepth 100000 in
theorem Tx.G_ring (T : Tx K mg) (P : Program) (w : World) (base : Heap) : FnD P w K mg base 3 T.f_ring T.d_ring ["locks", "name", "lock"] true T.ca fn_ring := by
  have sc := sc_ring
  refine fn_mkD T.F_ring sc (fun cdv A outer s H E hr tk hp => ?_)
  exact dss_cons (ds_setO 3 sc.nd rfl (by first | exact Or.inl rfl | exact Or.inr rfl) (do_lst (da_cons (de_var 1) (da_nil)))) (dss_cons (ds_set 4 sc.nd rfl (by first | exact Or.inl rfl | exact Or.inr rfl) (de_mt (de_var 0) T.cl_Locks T.me_Locks_holder (T.G_Locks_holder P w base) (fun z => z) rfl (hr.mono (by decide)) T.b_Locks_holder tk (da_cons (de_var 2) (da_nil)) (aCons_len (aNil_len)))) (dss_cons (ds_while 1000 hp (DW.t (dw_and (dt_isn (DE.b (de_var 4)) (DE.b (de_non))) (dw_and1 (dt_ne hr.units (DE.b (de_var 4)) (DE.b (de_var 1)))))) (dss_cons (ds_app 3 (de_var 4)) (dss_one (ds_set 4 sc.nd rfl (by first | exact Or.inl rfl | exact Or.inr rfl) (de_call (T.G_arrow P w base) (fun z => z) rfl (hr.mono (by decide)) T.m_arrow T.F_arrow.kp T.b_arrow tk (da_cons (de_var 0) (da_cons (de_var 4) (da_nil))) (aCons_len (aCons_len (aNil_len)))))))) (dss_cons (ds_if (dt_is (DE.b (de_var 4)) (DE.b (de_non))) (dss_one (ds_ret (de_non))) (dss_nil)) (dss_one (ds_retV 3)))))
set_option maxRecDepth 100000 in
theorem Tx.G_Locks___init__ (T : Tx K mg) (P : Program) (w : World) (base : Heap) : FnD P w K mg base 1 T.f_Locks___init__ T.d_Locks___init__ ["self"] false T.ca fn_Locks___init__ := by
  have sc := sc_Locks___init__
  refine fn_mkD T.F_Locks___init__ sc (fun cdv A outer s H E hr tk hp => ?_)
  exact dss_cons (ds_fldD T.cl_Locks T.nf_holders (de_var 0) (de_newK (dk_nil))) (dss_cons (ds_fldD T.cl_Locks T.nf_lines (de_var 0) (de_newK (dk_nil))) (dss_cons (ds_fldD T.cl_Locks T.nf_owns (de_var 0) (de_newK (dk_nil))) (dss_one (ds_fldD T.cl_Locks T.nf_wants (de_var 0) (de_newK (dk_nil))))))
set_option maxRecDepth 100000 in
theorem Tx.G_Locks_get (T : Tx K mg) (P : Program) (w : World) (base : Heap) : FnD P w K mg base 2 T.f_Locks_get T.d_Locks_get ["self", "name", "lock"] false T.ca fn_Locks_get := by
  have sc := sc_Locks_get
  refine fn_mkD T.F_Locks_get sc (fun cdv A outer s H E hr tk hp => ?_)
  exact dss_cons (ds_if (DT.down (dt_in (rm_u65 hr) (DE.b (de_var 2)) (db_rd (de_fldD T.cl_Locks T.nf_holders (de_var 0))))) (dss_one (ds_raise T.ex_Taken tk)) (dss_nil)) (dss_cons (ds_if (DT.down (dt_in (rm_u65 hr) (DE.b (de_var 1)) (db_rd (de_fldD T.cl_Locks T.nf_wants (de_var 0))))) (dss_one (ds_raise T.ex_Known tk)) (dss_nil)) (dss_cons (ds_rput hr.units (DE.down (de_fldD T.cl_Locks T.nf_holders (de_var 0))) (de_var 2) (de_var 1)) (dss_one (ds_rput hr.units (DE.down (de_fldD T.cl_Locks T.nf_owns (de_var 0))) (de_var 1) (de_add (DE.b (de_mt (de_var 0) T.cl_Locks T.me_Locks_held (T.G_Locks_held P w base) (fun z => nomatch z) rfl (hr.mono (by decide)) T.b_Locks_held tk (da_cons (de_var 1) (da_nil)) (aCons_len (aNil_len)))) (DO.b (do_lst (da_cons (de_var 2) (da_nil)))))))))
set_option maxRecDepth 100000 in
theorem Tx.G_Locks_want (T : Tx K mg) (P : Program) (w : World) (base : Heap) : FnD P w K mg base 4 T.f_Locks_want T.d_Locks_want ["self", "name", "lock"] false T.ca fn_Locks_want := by
  have sc := sc_Locks_want
  refine fn_mkD T.F_Locks_want sc (fun cdv A outer s H E hr tk hp => ?_)
  exact dss_cons (ds_if (DT.down (dt_nin (rm_u65 hr) (DE.b (de_var 2)) (db_rd (de_fldD T.cl_Locks T.nf_holders (de_var 0))))) (dss_one (ds_raise T.ex_Free tk)) (dss_nil)) (dss_cons (ds_if (DT.down (dt_in (rm_u65 hr) (DE.b (de_var 1)) (db_rd (de_fldD T.cl_Locks T.nf_wants (de_var 0))))) (dss_one (ds_raise T.ex_Known tk)) (dss_nil)) (dss_cons (ds_if (dt_isn (DE.b (de_call (T.G_ring P w base) (fun z => nomatch z) rfl (hr.mono (by decide)) T.m_ring T.F_ring.kp T.b_ring tk (da_cons (de_var 0) (da_cons (de_var 1) (da_cons (de_var 2) (da_nil)))) (aCons_len (aCons_len (aCons_len (aNil_len)))))) (DE.b (de_non))) (dss_one (ds_raise T.ex_Knot tk)) (dss_nil)) (dss_cons (ds_rput hr.units (DE.down (de_fldD T.cl_Locks T.nf_lines (de_var 0))) (de_var 2) (de_add (DE.b (de_mt (de_var 0) T.cl_Locks T.me_Locks_waiting (T.G_Locks_waiting P w base) (fun z => nomatch z) rfl (hr.mono (by decide)) T.b_Locks_waiting tk (da_cons (de_var 2) (da_nil)) (aCons_len (aNil_len)))) (DO.b (do_lst (da_cons (de_var 1) (da_nil)))))) (dss_one (ds_rput hr.units (DE.down (de_fldD T.cl_Locks T.nf_wants (de_var 0))) (de_var 1) (de_var 2))))))
set_option maxRecDepth 100000 in
theorem Tx.G_Locks_give (T : Tx K mg) (P : Program) (w : World) (base : Heap) : FnD P w K mg base 2 T.f_Locks_give T.d_Locks_give ["self", "name", "lock", "heir"] false T.ca fn_Locks_give := by
  have sc := sc_Locks_give
  refine fn_mkD T.F_Locks_give sc (fun cdv A outer s H E hr tk hp => ?_)
  exact dss_cons (ds_if (dt_ne hr.units (DE.b (de_mt (de_var 0) T.cl_Locks T.me_Locks_holder (T.G_Locks_holder P w base) (fun z => nomatch z) rfl (hr.mono (by decide)) T.b_Locks_holder tk (da_cons (de_var 2) (da_nil)) (aCons_len (aNil_len)))) (DE.b (de_var 1))) (dss_one (ds_raise T.ex_Strange tk)) (dss_nil)) (dss_cons (ds_set 4 sc.nd rfl (by first | exact Or.inl rfl | exact Or.inr rfl) (de_mt (de_var 0) T.cl_Locks T.me_Locks_waiting (T.G_Locks_waiting P w base) (fun z => nomatch z) rfl (hr.mono (by decide)) T.b_Locks_waiting tk (da_cons (de_var 2) (da_nil)) (aCons_len (aNil_len)))) (dss_cons (ds_if (DW.t (dw_or (DW.t (dw_and (dt_is (DE.b (de_var 3)) (DE.b (de_non))) (dw_and1 (dt_gt (DE.b (de_len (DE.b (de_var 4)) rfl rfl T.n_len)) (DE.b (de_int)))))) (dw_or1 (DW.t (dw_and (dt_isn (DE.b (de_var 3)) (DE.b (de_non))) (dw_and1 (dt_nin (rm_u65 hr) (DE.b (de_var 3)) (DE.b (de_var 4))))))))) (dss_one (ds_raise T.ex_Unknown tk)) (dss_nil)) (dss_cons (ds_rput hr.units (DE.down (de_fldD T.cl_Locks T.nf_owns (de_var 0))) (de_var 1) (de_own (do_lc (own := [("one", 5)]) rfl sc.nd (di_any (de_mt (de_var 0) T.cl_Locks T.me_Locks_held (T.G_Locks_held P w base) (fun z => nomatch z) rfl (hr.mono (by decide)) T.b_Locks_held tk (da_cons (de_var 1) (da_nil)) (aCons_len (aNil_len)))) (blkOk_by (N := N_Locks_give) (sc := defScope st_Locks_give) (by decide +kernel)) (fun _ _ _ _ _ => dg_name 5 sc.nd rfl (by first | exact Or.inl rfl | exact Or.inr rfl)) (fun _ _ _ _ _ => dts_one (dt_ne hr.units (DE.b (de_var 5)) (DE.b (de_var 2)))) (fun _ _ _ _ _ => de_var 5)))) (dss_cons (ds_expr (de_rpop (DE.down (de_fldD T.cl_Locks T.nf_holders (de_var 0))) (de_var 2))) (dss_one (ds_if (dt_isn (DE.b (de_var 3)) (DE.b (de_non))) (dss_cons (ds_rput hr.units (DE.down (de_fldD T.cl_Locks T.nf_lines (de_var 0))) (de_var 2) (de_own (do_lc (own := [("one", 5)]) rfl sc.nd (di_any (de_var 4)) (blkOk_by (N := N_Locks_give) (sc := defScope st_Locks_give) (by decide +kernel)) (fun _ _ _ _ _ => dg_name 5 sc.nd rfl (by first | exact Or.inl rfl | exact Or.inr rfl)) (fun _ _ _ _ _ => dts_one (dt_ne hr.units (DE.b (de_var 5)) (DE.b (de_var 3)))) (fun _ _ _ _ _ => de_var 5)))) (dss_cons (ds_expr (de_rpop (DE.down (de_fldD T.cl_Locks T.nf_wants (de_var 0))) (de_var 3))) (dss_cons (ds_rput hr.units (DE.down (de_fldD T.cl_Locks T.nf_holders (de_var 0))) (de_var 2) (de_var 3)) (dss_one (ds_rput hr.units (DE.down (de_fldD T.cl_Locks T.nf_owns (de_var 0))) (de_var 3) (de_add (DE.b (de_mt (de_var 0) T.cl_Locks T.me_Locks_held (T.G_Locks_held P w base) (fun z => nomatch z) rfl (hr.mono (by decide)) T.b_Locks_held tk (da_cons (de_var 3) (da_nil)) (aCons_len (aNil_len)))) (DO.b (do_lst (da_cons (de_var 2) (da_nil)))))))))) (dss_nil)))))))
set_option maxRecDepth 100000 in
theorem Tx.G_law_cell_at (T : Tx K mg) (P : Program) (w : World) (base : Heap) : FnD P w K mg base 1 T.f_law_cell_at T.d_law_cell_at ["script", "k"] true T.ca fn_law_cell_at := by
  have sc := sc_law_cell_at
  refine fn_mkD T.F_law_cell_at sc (fun cdv A outer s H E hr tk hp => ?_)
  exact dss_cons (ds_if (dt_lt (DE.b (de_var 1)) (DE.b (de_len (DE.b (de_var 0)) rfl rfl T.n_len))) (dss_one (ds_ret (de_ix (DE.b (de_var 0)) (DE.b (de_var 1))))) (dss_nil)) (dss_one (ds_ret (de_int)))
set_option maxRecDepth 100000 in
theorem Tx.G_law_mixed (T : Tx K mg) (P : Program) (w : World) (base : Heap) : FnD P w K mg base 1 T.f_law_mixed T.d_law_mixed ["cell", "many"] true T.ca fn_law_mixed := by
  have sc := sc_law_mixed
  refine fn_mkD T.F_law_mixed sc (fun cdv A outer s H E hr tk hp => ?_)
  exact dss_one (ds_ret (de_mod (DE.b (de_mod (DE.b (de_add (DE.b (de_mul (DE.b (de_var 0)) (DE.b (de_int)))) (DE.b (de_int)))) (DE.b (de_int)))) (DE.b (de_var 1))))
set_option maxRecDepth 100000 in
theorem Tx.G_law_name_by (T : Tx K mg) (P : Program) (w : World) (base : Heap) : FnD P w K mg base 1 T.f_law_name_by T.d_law_name_by ["k", "cell"] true T.ca fn_law_name_by := by
  have sc := sc_law_name_by
  refine fn_mkD T.F_law_name_by sc (fun cdv A outer s H E hr tk hp => ?_)
  exact dss_cons (ds_set 2 sc.nd rfl (by first | exact Or.inl rfl | exact Or.inr rfl) (de_ix (DE.b (de_str)) (DE.b (de_mod (DE.b (de_var 0)) (DE.b (de_int)))))) (dss_cons (ds_set 3 sc.nd rfl (by first | exact Or.inl rfl | exact Or.inr rfl) (de_ix (DE.b (de_str)) (DE.b (de_mod (DE.b (de_div (DE.b (de_var 0)) (DE.b (de_int)))) (DE.b (de_int)))))) (dss_cons (ds_if (dt_eq hr.units (DE.b (de_mod (DE.b (de_var 1)) (DE.b (de_int)))) (DE.b (de_int))) (dss_one (ds_ret (de_add (DE.b (de_add (DE.b (de_ix (DO.b (do_lst (da_cons (de_str) (da_cons (de_str) (da_cons (de_str) (da_nil)))))) (DE.b (de_mod (DE.b (de_div (DE.b (de_var 1)) (DE.b (de_int)))) (DE.b (de_int)))))) (DE.b (de_var 2)))) (DE.b (de_var 3))))) (dss_nil)) (dss_cons (ds_set 4 sc.nd rfl (by first | exact Or.inl rfl | exact Or.inr rfl) (de_mod (DE.b (de_div (DE.b (de_var 1)) (DE.b (de_int)))) (DE.b (de_int)))) (dss_one (ds_ret (de_add (DE.b (de_add (DE.b (de_add (DE.b (de_mul (DE.b (de_str)) (DE.b (de_var 4)))) (DE.b (de_var 2)))) (DE.b (de_var 3)))) (DE.b (de_mul (DE.b (de_str)) (DE.b (de_sub (DE.b (de_int)) (DE.b (de_var 4))))))))))))
set_option maxRecDepth 100000 in
theorem Tx.G_law_new (T : Tx K mg) (P : Program) (w : World) (base : Heap) : FnD P w K mg base 1 T.f_law_new T.d_law_new [] false T.ca fn_law_new := by
  have sc := sc_law_new
  refine fn_mkD T.F_law_new sc (fun cdv A outer s H E hr tk hp => ?_)
  exact dss_one (ds_ret (de_dct (dk_disp (dps_cons (de_str) (de_newK (dk_nil)) (dps_cons (de_str) (de_newK (dk_nil)) (dps_cons (de_str) (de_newK (dk_nil)) (dps_cons (de_str) (de_newK (dk_nil)) (dps_nil))))))))
set_option maxRecDepth 100000 in
theorem Tx.G_law_ring (T : Tx K mg) (P : Program) (w : World) (base : Heap) : FnD P w K mg base 1 T.f_law_ring T.d_law_ring ["state", "name", "lock"] true T.ca fn_law_ring := by
  have sc := sc_law_ring
  refine fn_mkD T.F_law_ring sc (fun cdv A outer s H E hr tk hp => ?_)
  exact dss_cons (ds_set 3 sc.nd rfl (by first | exact Or.inl rfl | exact Or.inr rfl) (de_get1 hr.units (db_rd (de_dget hr.units (DE.b (de_var 0)) (DE.b (de_str)))) (DE.b (de_var 2)))) (dss_cons (ds_set 4 sc.nd rfl (by first | exact Or.inl rfl | exact Or.inr rfl) (de_own (do_lst (da_cons (de_var 1) (da_nil))))) (dss_cons (ds_for hp rfl (di_range1 (de_int) rfl T.n_range) (dg_name 5 sc.nd rfl (by first | exact Or.inl rfl | exact Or.inr rfl)) (dss_cons (ds_if (dt_is (DE.b (de_var 3)) (DE.b (de_non))) (dss_one (ds_ret (de_non))) (dss_nil)) (dss_cons (ds_if (dt_eq hr.units (DE.b (de_var 3)) (DE.b (de_var 1))) (dss_one (ds_ret (de_var 4))) (dss_nil)) (dss_cons (ds_set 4 sc.nd rfl (by first | exact Or.inl rfl | exact Or.inr rfl) (de_add (DE.b (de_var 4)) (DO.b (do_lst (da_cons (de_var 3) (da_nil)))))) (dss_one (ds_set 3 sc.nd rfl (by first | exact Or.inl rfl | exact Or.inr rfl) (de_get1 hr.units (db_rd (de_dget hr.units (DE.b (de_var 0)) (DE.b (de_str)))) (DE.b (de_get1 hr.units (db_rd (de_dget hr.units (DE.b (de_var 0)) (DE.b (de_str)))) (DE.b (de_var 3))))))))))) (dss_one (ds_ret (de_non)))))
set_option maxRecDepth 100000 in
theorem Tx.G_law_due (T : Tx K mg) (P : Program) (w : World) (base : Heap) : FnD P w K mg base 2 T.f_law_due T.d_law_due ["state", "deed"] true T.ca fn_law_due := by
  have sc := sc_law_due
  refine fn_mkD T.F_law_due sc (fun cdv A outer s H E hr tk hp => ?_)
  exact dss_cons (ds_par2 2 3 rfl sc.nd rfl rfl rfl rfl (da_cons (de_ix (DE.b (de_var 1)) (DE.b (de_int))) (da_cons (de_ix (DE.b (de_var 1)) (DE.b (de_int))) (da_nil)))) (dss_cons (ds_set 4 sc.nd rfl (by first | exact Or.inl rfl | exact Or.inr rfl) (de_get1 hr.units (db_rd (de_dget hr.units (DE.b (de_var 0)) (DE.b (de_str)))) (DE.b (de_var 3)))) (dss_cons (ds_set 5 sc.nd rfl (by first | exact Or.inl rfl | exact Or.inr rfl) (de_get2 hr.units (db_rd (de_dget hr.units (DE.b (de_var 0)) (DE.b (de_str)))) (DE.b (de_var 3)) (de_own (do_lst (da_nil))))) (dss_cons (ds_if (dt_eq hr.units (DE.b (de_ix (DE.b (de_var 1)) (DE.b (de_int)))) (DE.b (de_str))) (dss_cons (ds_if (dt_isn (DE.b (de_var 4)) (DE.b (de_non))) (dss_one (ds_ret (de_str))) (dss_nil)) (dss_one (ds_ret (de_mul (DE.b (de_str)) (DE.b (de_intF (DE.b (de_in (rm_u65 hr) (DE.b (de_var 2)) (db_rd (de_dget hr.units (DE.b (de_var 0)) (DE.b (de_str)))))) rfl rfl T.n_int)))))) (dss_nil)) (dss_cons (ds_if (dt_eq hr.units (DE.b (de_ix (DE.b (de_var 1)) (DE.b (de_int)))) (DE.b (de_str))) (dss_cons (ds_if (dt_is (DE.b (de_var 4)) (DE.b (de_non))) (dss_one (ds_ret (de_str))) (dss_nil)) (dss_cons (ds_if (dt_in (rm_u65 hr) (DE.b (de_var 2)) (db_rd (de_dget hr.units (DE.b (de_var 0)) (DE.b (de_str))))) (dss_one (ds_ret (de_str))) (dss_nil)) (dss_one (ds_ret (de_mul (DE.b (de_str)) (DE.b (de_intF (DE.b (de_isn (DE.b (de_call (T.G_law_ring P w base) (fun z => z) rfl (hr.mono (by decide)) T.m_law_ring T.F_law_ring.kp T.b_law_ring tk (da_cons (de_var 0) (da_cons (de_var 2) (da_cons (de_var 3) (da_nil)))) (aCons_len (aCons_len (aCons_len (aNil_len)))))) (DE.b (de_non)))) rfl rfl T.n_int))))))) (dss_nil)) (dss_cons (ds_if (dt_ne hr.units (DE.b (de_var 4)) (DE.b (de_var 2))) (dss_one (ds_ret (de_str))) (dss_nil)) (dss_cons (ds_if (dt_is (DE.b (de_ix (DE.b (de_var 1)) (DE.b (de_int)))) (DE.b (de_non))) (dss_one (ds_ret (de_mul (DE.b (de_str)) (DE.b (de_intF (DE.b (de_gt (DE.b (de_len (DE.b (de_var 5)) rfl rfl T.n_len)) (DE.b (de_int)))) rfl rfl T.n_int))))) (dss_nil)) (dss_one (ds_ret (de_mul (DE.b (de_str)) (DE.b (de_intF (DE.b (de_nin (rm_u65 hr) (DE.b (de_ix (DE.b (de_var 1)) (DE.b (de_int)))) (DE.b (de_var 5)))) rfl rfl T.n_int)))))))))))
set_option maxRecDepth 100000 in
theorem Tx.G_law_moved (T : Tx K mg) (P : Program) (w : World) (base : Heap) : FnD P w K mg base 1 T.f_law_moved T.d_law_moved ["state", "deed"] false T.ca fn_law_moved := by
  have sc := sc_law_moved
  refine fn_mkD T.F_law_moved sc (fun cdv A outer s H E hr tk hp => ?_)
  exact dss_cons (ds_unp (de_tup (da_cons (de_ix (DE.b (de_var 1)) (DE.b (de_int))) (da_cons (de_ix (DE.b (de_var 1)) (DE.b (de_int))) (da_nil)))) (dg_tup rfl (dgs_cons (dg_name 2 sc.nd rfl (by first | exact Or.inl rfl | exact Or.inr rfl)) (dgs_cons (dg_name 3 sc.nd rfl (by first | exact Or.inl rfl | exact Or.inr rfl)) (dgs_nil))) (bCons_len (bCons_len (bNil_len))))) (dss_one (ds_if (dt_eq hr.units (DE.b (de_ix (DE.b (de_var 1)) (DE.b (de_int)))) (DE.b (de_str))) (dss_cons (ds_rput hr.units (DE.down (de_dget hr.units (DE.b (de_var 0)) (DE.b (de_str)))) (de_var 3) (de_var 2)) (dss_one (ds_rput hr.units (DE.down (de_dget hr.units (DE.b (de_var 0)) (DE.b (de_str)))) (de_var 2) (DE.down (de_add (DE.b (de_get2 hr.units (db_rd (de_dget hr.units (DE.b (de_var 0)) (DE.b (de_str)))) (DE.b (de_var 2)) (de_own (do_lst (da_nil))))) (DO.b (do_lst (da_cons (de_var 3) (da_nil))))))))) (dss_one (ds_if (dt_eq hr.units (DE.b (de_ix (DE.b (de_var 1)) (DE.b (de_int)))) (DE.b (de_str))) (dss_cons (ds_rput hr.units (DE.down (de_dget hr.units (DE.b (de_var 0)) (DE.b (de_str)))) (de_var 2) (de_var 3)) (dss_one (ds_rput hr.units (DE.down (de_dget hr.units (DE.b (de_var 0)) (DE.b (de_str)))) (de_var 3) (DE.down (de_add (DE.b (de_get2 hr.units (db_rd (de_dget hr.units (DE.b (de_var 0)) (DE.b (de_str)))) (DE.b (de_var 3)) (de_own (do_lst (da_nil))))) (DO.b (do_lst (da_cons (de_var 2) (da_nil))))))))) (dss_cons (ds_rput hr.units (DE.down (de_dget hr.units (DE.b (de_var 0)) (DE.b (de_str)))) (de_var 2) (DE.down (de_own (do_lc (own := [("one", 4)]) rfl sc.nd (di_any (de_dget hr.units (db_rd (de_dget hr.units (DE.b (de_var 0)) (DE.b (de_str)))) (DE.b (de_var 2)))) (blkOk_by (N := N_law_moved) (sc := defScope st_law_moved) (by decide +kernel)) (fun _ _ _ _ _ => dg_name 4 sc.nd rfl (by first | exact Or.inl rfl | exact Or.inr rfl)) (fun _ _ _ _ _ => dts_one (dt_ne hr.units (DE.b (de_var 4)) (DE.b (de_var 3)))) (fun _ _ _ _ _ => de_var 4))))) (dss_cons (ds_expr (de_rpop (DE.down (de_dget hr.units (DE.b (de_var 0)) (DE.b (de_str)))) (de_var 3))) (dss_one (ds_if (dt_isn (DE.b (de_ix (DE.b (de_var 1)) (DE.b (de_int)))) (DE.b (de_non))) (dss_cons (ds_rput hr.units (DE.down (de_dget hr.units (DE.b (de_var 0)) (DE.b (de_str)))) (de_var 3) (DE.down (de_own (do_lc (own := [("one", 4)]) rfl sc.nd (di_any (de_dget hr.units (db_rd (de_dget hr.units (DE.b (de_var 0)) (DE.b (de_str)))) (DE.b (de_var 3)))) (blkOk_by (N := N_law_moved) (sc := defScope st_law_moved) (by decide +kernel)) (fun _ _ _ _ _ => dg_name 4 sc.nd rfl (by first | exact Or.inl rfl | exact Or.inr rfl)) (fun _ _ _ _ _ => dts_one (dt_ne hr.units (DE.b (de_var 4)) (DE.b (de_ix (DE.b (de_var 1)) (DE.b (de_int)))))) (fun _ _ _ _ _ => de_var 4))))) (dss_cons (ds_expr (de_rpop (DE.down (de_dget hr.units (DE.b (de_var 0)) (DE.b (de_str)))) (de_ix (DE.b (de_var 1)) (DE.b (de_int))))) (dss_cons (ds_rput hr.units (DE.down (de_dget hr.units (DE.b (de_var 0)) (DE.b (de_str)))) (de_var 3) (de_ix (DE.b (de_var 1)) (DE.b (de_int)))) (dss_one (ds_rput hr.units (DE.down (de_dget hr.units (DE.b (de_var 0)) (DE.b (de_str)))) (de_ix (DE.b (de_var 1)) (DE.b (de_int))) (DE.down (de_add (DE.b (de_get2 hr.units (db_rd (de_dget hr.units (DE.b (de_var 0)) (DE.b (de_str)))) (DE.b (de_ix (DE.b (de_var 1)) (DE.b (de_int)))) (de_own (do_lst (da_nil))))) (DO.b (do_lst (da_cons (de_var 3) (da_nil))))))))))) (dss_nil)))))))))
set_option maxRecDepth 100000 in
theorem Tx.G_law_taken (T : Tx K mg) (P : Program) (w : World) (base : Heap) : FnD P w K mg base 5 T.f_law_taken T.d_law_taken ["locks", "state", "name", "lock"] false T.ca fn_law_taken := by
  have sc := sc_law_taken
  refine fn_mkD T.F_law_taken sc (fun cdv A outer s H E hr tk hp => ?_)
  exact dss_cons (ds_set 4 sc.nd rfl (by first | exact Or.inl rfl | exact Or.inr rfl) (de_tup (da_cons (de_str) (da_cons (de_var 2) (da_cons (de_var 3) (da_nil)))))) (dss_cons (ds_if (DT.down (dt_nin (rm_u65 hr) (DE.b (de_var 3)) (db_rd (de_dget hr.units (DE.b (de_var 1)) (DE.b (de_str)))))) (dss_one (ds_set 4 sc.nd rfl (by first | exact Or.inl rfl | exact Or.inr rfl) (de_tup (da_cons (de_str) (da_cons (de_var 2) (da_cons (de_var 3) (da_nil))))))) (dss_nil)) (dss_cons (ds_set 5 sc.nd rfl (by first | exact Or.inl rfl | exact Or.inr rfl) (de_call (T.G_law_due P w base) (fun z => nomatch z) rfl (hr.mono (by decide)) T.m_law_due T.F_law_due.kp T.b_law_due tk (da_cons (de_var 1) (da_cons (de_var 4) (da_nil))) (aCons_len (aCons_len (aNil_len))))) (dss_one (ds_if (dt_eq hr.units (DE.b (de_var 5)) (DE.b (de_str))) (dss_cons (ds_expr (de_call (T.G_law_moved P w base) (fun z => z) rfl (hr.mono (by decide)) T.m_law_moved T.F_law_moved.kp T.b_law_moved tk (da_cons (de_var 1) (da_cons (de_var 4) (da_nil))) (aCons_len (aCons_len (aNil_len))))) (dss_one (ds_if (dt_eq hr.units (DE.b (de_ix (DE.b (de_var 4)) (DE.b (de_int)))) (DE.b (de_str))) (dss_one (ds_expr (de_mt (de_var 0) T.cl_Locks T.me_Locks_get (T.G_Locks_get P w base) (fun z => z) rfl (hr.mono (by decide)) T.b_Locks_get tk (da_cons (de_var 2) (da_cons (de_var 3) (da_nil))) (aCons_len (aCons_len (aNil_len)))))) (dss_one (ds_expr (de_mt (de_var 0) T.cl_Locks T.me_Locks_want (T.G_Locks_want P w base) (fun z => z) rfl (hr.mono (by decide)) T.b_Locks_want tk (da_cons (de_var 2) (da_cons (de_var 3) (da_nil))) (aCons_len (aCons_len (aNil_len))))))))) (dss_nil)))))
set_option maxRecDepth 100000 in
theorem Tx.G_law_built (T : Tx K mg) (P : Program) (w : World) (base : Heap) : FnD P w K mg base 6 T.f_law_built T.d_law_built ["script", "names", "some"] false T.ca fn_law_built := by
  have sc := sc_law_built
  refine fn_mkD T.F_law_built sc (fun cdv A outer s H E hr tk hp => ?_)
  exact dss_cons (ds_set 3 sc.nd rfl (by first | exact Or.inl rfl | exact Or.inr rfl) (de_mk0 T.mk_Locks (T.G_Locks___init__ P w base) rfl (hr.mono (by decide)) T.mg_Locks T.b_Locks___init__ tk)) (dss_cons (ds_set 4 sc.nd rfl (by first | exact Or.inl rfl | exact Or.inr rfl) (de_call0 (T.G_law_new P w base) (fun z => z) rfl (hr.mono (by decide)) T.m_law_new T.F_law_new.kp T.b_law_new tk)) (dss_cons (ds_for hp rfl (di_any (de_slA (DE.b (de_var 0)) (dp_some (de_int)) (dp_some (de_int)))) (dg_name 5 sc.nd rfl (by first | exact Or.inl rfl | exact Or.inr rfl)) (dss_one (ds_expr (de_call (T.G_law_taken P w base) (fun z => z) rfl (hr.mono (by decide)) T.m_law_taken T.F_law_taken.kp T.b_law_taken tk (da_cons (de_var 3) (da_cons (de_var 4) (da_cons (de_ix (DE.b (de_var 1)) (DE.b (de_mod (DE.b (de_var 5)) (DE.b (de_len (DE.b (de_var 1)) rfl rfl T.n_len))))) (da_cons (de_ix (DE.b (de_var 2)) (DE.b (de_mod (DE.b (de_div (DE.b (de_var 5)) (DE.b (de_len (DE.b (de_var 1)) rfl rfl T.n_len)))) (DE.b (de_len (DE.b (de_var 2)) rfl rfl T.n_len))))) (da_nil))))) (aCons_len (aCons_len (aCons_len (aCons_len (aNil_len))))))))) (dss_cons (ds_if (dt_eq hr.units (DE.b (de_mod (DE.b (de_div (DE.b (de_call (T.G_law_cell_at P w base) (fun z => nomatch z) rfl (hr.mono (by decide)) T.m_law_cell_at T.F_law_cell_at.kp T.b_law_cell_at tk (da_cons (de_var 0) (da_cons (de_int) (da_nil))) (aCons_len (aCons_len (aNil_len))))) (DE.b (de_int)))) (DE.b (de_int)))) (DE.b (de_int))) (dss_cons (ds_for hp rfl (di_range1 (de_len (DE.b (de_var 1)) rfl rfl T.n_len) rfl T.n_range) (dg_name 6 sc.nd rfl (by first | exact Or.inl rfl | exact Or.inr rfl)) (dss_one (ds_expr (de_call (T.G_law_taken P w base) (fun z => z) rfl (hr.mono (by decide)) T.m_law_taken T.F_law_taken.kp T.b_law_taken tk (da_cons (de_var 3) (da_cons (de_var 4) (da_cons (de_ix (DE.b (de_var 1)) (DE.b (de_var 6))) (da_cons (de_ix (DE.b (de_var 2)) (DE.b (de_mod (DE.b (de_var 6)) (DE.b (de_len (DE.b (de_var 2)) rfl rfl T.n_len))))) (da_nil))))) (aCons_len (aCons_len (aCons_len (aCons_len (aNil_len))))))))) (dss_one (ds_for hp rfl (di_range2 (de_int) (de_len (DE.b (de_var 1)) rfl rfl T.n_len) rfl T.n_range) (dg_name 6 sc.nd rfl (by first | exact Or.inl rfl | exact Or.inr rfl)) (dss_one (ds_expr (de_call (T.G_law_taken P w base) (fun z => z) rfl (hr.mono (by decide)) T.m_law_taken T.F_law_taken.kp T.b_law_taken tk (da_cons (de_var 3) (da_cons (de_var 4) (da_cons (de_ix (DE.b (de_var 1)) (DE.b (de_sub (DE.b (de_var 6)) (DE.b (de_int))))) (da_cons (de_ix (DE.b (de_var 2)) (DE.b (de_mod (DE.b (de_add (DE.b (de_var 6)) (DE.b (de_call (T.G_law_cell_at P w base) (fun z => nomatch z) rfl (hr.mono (by decide)) T.m_law_cell_at T.F_law_cell_at.kp T.b_law_cell_at tk (da_cons (de_var 0) (da_cons (de_int) (da_nil))) (aCons_len (aCons_len (aNil_len))))))) (DE.b (de_len (DE.b (de_var 2)) rfl rfl T.n_len))))) (da_nil))))) (aCons_len (aCons_len (aCons_len (aCons_len (aNil_len))))))))))) (dss_nil)) (dss_one (ds_ret (de_tup (da_cons (de_var 3) (da_cons (de_var 4) (da_nil)))))))))
set_option maxRecDepth 100000 in
theorem Tx.G_law_many_by (T : Tx K mg) (P : Program) (w : World) (base : Heap) : FnD P w K mg base 1 T.f_law_many_by T.d_law_many_by ["cell"] true T.ca fn_law_many_by := by
  have sc := sc_law_many_by
  refine fn_mkD T.F_law_many_by sc (fun cdv A outer s H E hr tk hp => ?_)
  exact dss_cons (ds_set 1 sc.nd rfl (by first | exact Or.inl rfl | exact Or.inr rfl) (de_add (DE.b (de_int)) (DE.b (de_mod (DE.b (de_var 0)) (DE.b (de_int)))))) (dss_cons (ds_if (dt_eq hr.units (DE.b (de_mod (DE.b (de_div (DE.b (de_var 0)) (DE.b (de_int)))) (DE.b (de_int)))) (DE.b (de_int))) (dss_one (ds_set 1 sc.nd rfl (by first | exact Or.inl rfl | exact Or.inr rfl) (de_add (DE.b (de_int)) (DE.b (de_mod (DE.b (de_div (DE.b (de_var 0)) (DE.b (de_int)))) (DE.b (de_int))))))) (dss_nil)) (dss_one (ds_ret (de_var 1))))
set_option maxRecDepth 100000 in
theorem Tx.G_law_rank_by (T : Tx K mg) (P : Program) (w : World) (base : Heap) : FnD P w K mg base 2 T.f_law_rank_by T.d_law_rank_by ["cell", "k"] true T.ca fn_law_rank_by := by
  have sc := sc_law_rank_by
  refine fn_mkD T.F_law_rank_by sc (fun cdv A outer s H E hr tk hp => ?_)
  exact dss_cons (ds_if (dt_eq hr.units (DE.b (de_mod (DE.b (de_var 0)) (DE.b (de_int)))) (DE.b (de_int))) (dss_one (ds_ret (de_ix (DO.b (do_lst (da_cons (de_int) (da_cons (de_int) (da_cons (de_int) (da_cons (de_int) (da_cons (de_int) (da_cons (de_int) (da_nil))))))))) (DE.b (de_call (T.G_law_mixed P w base) (fun z => z) rfl (hr.mono (by decide)) T.m_law_mixed T.F_law_mixed.kp T.b_law_mixed tk (da_cons (de_mulX (DE.b (de_add (DE.b (de_var 0)) (DE.b (de_mul (DE.b (de_int)) (DE.b (de_var 1)))))) (DE.b (de_add (DE.b (de_add (DE.b (de_var 0)) (DE.b (de_mul (DE.b (de_int)) (DE.b (de_var 1)))))) (DE.b (de_int))))) (da_cons (de_int) (da_nil))) (aCons_len (aCons_len (aNil_len)))))))) (dss_nil)) (dss_one (ds_ret (de_call (T.G_law_mixed P w base) (fun z => z) rfl (hr.mono (by decide)) T.m_law_mixed T.F_law_mixed.kp T.b_law_mixed tk (da_cons (de_mulX (DE.b (de_add (DE.b (de_var 0)) (DE.b (de_mul (DE.b (de_int)) (DE.b (de_var 1)))))) (DE.b (de_add (DE.b (de_add (DE.b (de_var 0)) (DE.b (de_mul (DE.b (de_int)) (DE.b (de_var 1)))))) (DE.b (de_int))))) (da_cons (de_int) (da_nil))) (aCons_len (aCons_len (aNil_len))))))
set_option maxRecDepth 100000 in
theorem Tx.G_law_lent (T : Tx K mg) (P : Program) (w : World) (base : Heap) : FnD P w K mg base 1 T.f_law_lent T.d_law_lent ["state", "ranks"] false T.ca fn_law_lent := by
  have sc := sc_law_lent
  refine fn_mkD T.F_law_lent sc (fun cdv A outer s H E hr tk hp => ?_)
  exact dss_cons (ds_set 2 sc.nd rfl (by first | exact Or.inl rfl | exact Or.inr rfl) (de_newK (dk_dictK (DE.down (de_var 1)) rfl T.n_dict))) (dss_cons (ds_for hp rfl (di_range1 (DE.down (de_len (db_rd (de_var 1)) rfl rfl T.n_len)) rfl T.n_range) (dg_name 3 sc.nd rfl (by first | exact Or.inl rfl | exact Or.inr rfl)) (dss_one (ds_lock (eBin dgetD (eVar 0) (eC (.str "want"))) (ds_for hp rfl (di_keysF (DE.down (de_dget hr.units (DE.b (de_var 0)) (DE.b (de_str))))) (dg_name 4 sc.nd rfl (by first | exact Or.inl rfl | exact Or.inr rfl)) (dss_cons (ds_set 5 sc.nd rfl (by first | exact Or.inl rfl | exact Or.inr rfl) (DE.down (de_dget hr.units (db_rd (de_dget hr.units (DE.b (de_var 0)) (DE.b (de_str)))) (DE.b (de_ixF hr.units (de_dget hr.units (DE.b (de_var 0)) (DE.b (de_str))) (de_var 4)))))) (dss_one (ds_rput hr.units (DE.down (de_var 2)) (de_var 5) (DE.down (de_max2 rfl (DE.b (de_dget hr.units (db_rd (de_var 2)) (DE.b (de_var 5)))) (DE.b (de_dget hr.units (db_rd (de_var 2)) (DE.b (de_var 4)))) rfl rfl T.n_max))))))))) (dss_one (ds_ret (DE.down (de_var 2)))))
set_option maxRecDepth 100000 in
theorem Tx.G_law_heir (T : Tx K mg) (P : Program) (w : World) (base : Heap) : FnD P w K mg base 2 T.f_law_heir T.d_law_heir ["state", "ranks", "lock"] false T.ca fn_law_heir := by
  have sc := sc_law_heir
  refine fn_mkD T.F_law_heir sc (fun cdv A outer s H E hr tk hp => ?_)
  exact dss_cons (ds_set 3 sc.nd rfl (by first | exact Or.inl rfl | exact Or.inr rfl) (de_call (T.G_law_lent P w base) (fun z => z) rfl (hr.mono (by decide)) T.m_law_lent T.F_law_lent.kp T.b_law_lent tk (da_cons (de_var 0) (da_cons (DE.down (de_var 1)) (da_nil))) (aCons_len (aCons_len (aNil_len))))) (dss_cons (ds_set 4 sc.nd rfl (by first | exact Or.inl rfl | exact Or.inr rfl) (de_non)) (dss_cons (ds_for hp rfl (di_any (DE.down (de_get2 hr.units (db_rd (de_dget hr.units (DE.b (de_var 0)) (DE.b (de_str)))) (DE.b (de_var 2)) (de_own (do_lst (da_nil)))))) (dg_name 5 sc.nd rfl (by first | exact Or.inl rfl | exact Or.inr rfl)) (dss_one (ds_if (DT.down (DW.t (dw_or (dt_is (DE.b (de_var 4)) (DE.b (de_non))) (dw_or1 (dt_gt (DE.b (de_dget hr.units (db_rd (de_var 3)) (DE.b (de_var 5)))) (DE.b (de_dget hr.units (db_rd (de_var 3)) (DE.b (de_var 4))))))))) (dss_one (ds_set 4 sc.nd rfl (by first | exact Or.inl rfl | exact Or.inr rfl) (de_var 5))) (dss_nil)))) (dss_one (ds_ret (de_var 4)))))
set_option maxRecDepth 100000 in
theorem Tx.G_law_stays (T : Tx K mg) (P : Program) (w : World) (base : Heap) : FnD P w K mg base 2 T.f_law_stays T.d_law_stays ["locks", "state", "names"] true T.ca fn_law_stays := by
  have sc := sc_law_stays
  refine fn_mkD T.F_law_stays sc (fun cdv A outer s H E hr tk hp => ?_)
  exact dss_cons (ds_for hp rfl (di_any (de_add (DE.b (de_slA (DE.b (de_var 2)) (dp_none) (dp_some (de_int)))) (DE.b (de_slA (DE.b (de_var 2)) (dp_some (de_neg (de_int))) (dp_none))))) (dg_name 3 sc.nd rfl (by first | exact Or.inl rfl | exact Or.inr rfl)) (dss_cons (ds_if (DW.t (dw_or (dt_ne hr.units (DE.b (de_mt (de_var 0) T.cl_Locks T.me_Locks_wanted (T.G_Locks_wanted P w base) (fun z => z) rfl (hr.mono (by decide)) T.b_Locks_wanted tk (da_cons (de_var 3) (da_nil)) (aCons_len (aNil_len)))) (DE.b (de_get1 hr.units (db_rd (de_dget hr.units (DE.b (de_var 1)) (DE.b (de_str)))) (DE.b (de_var 3))))) (dw_or1 (dt_ne hr.units (DE.b (de_mt (de_var 0) T.cl_Locks T.me_Locks_held (T.G_Locks_held P w base) (fun z => z) rfl (hr.mono (by decide)) T.b_Locks_held tk (da_cons (de_var 3) (da_nil)) (aCons_len (aNil_len)))) (DE.b (de_get2 hr.units (db_rd (de_dget hr.units (DE.b (de_var 1)) (DE.b (de_str)))) (DE.b (de_var 3)) (de_own (do_lst (da_nil))))))))) (dss_one (ds_ret (de_bl))) (dss_nil)) (dss_cons (ds_set 4 sc.nd rfl (by first | exact Or.inl rfl | exact Or.inr rfl) (de_get1 hr.units (db_rd (de_dget hr.units (DE.b (de_var 1)) (DE.b (de_str)))) (DE.b (de_var 3)))) (dss_cons (ds_if (dt_is (DE.b (de_var 4)) (DE.b (de_non))) (dss_one (ds_cont)) (dss_nil)) (dss_one (ds_if (DW.t (dw_or (dt_ne hr.units (DE.b (de_mt (de_var 0) T.cl_Locks T.me_Locks_holder (T.G_Locks_holder P w base) (fun z => z) rfl (hr.mono (by decide)) T.b_Locks_holder tk (da_cons (de_var 4) (da_nil)) (aCons_len (aNil_len)))) (DE.b (de_dget hr.units (db_rd (de_dget hr.units (DE.b (de_var 1)) (DE.b (de_str)))) (DE.b (de_var 4))))) (dw_or1 (dt_ne hr.units (DE.b (de_mt (de_var 0) T.cl_Locks T.me_Locks_waiting (T.G_Locks_waiting P w base) (fun z => z) rfl (hr.mono (by decide)) T.b_Locks_waiting tk (da_cons (de_var 4) (da_nil)) (aCons_len (aNil_len)))) (DE.b (de_dget hr.units (db_rd (de_dget hr.units (DE.b (de_var 1)) (DE.b (de_str)))) (DE.b (de_var 4)))))))) (dss_one (ds_ret (de_bl))) (dss_nil))))))) (dss_one (ds_ret (de_bl)))
set_option maxRecDepth 100000 in
theorem Tx.G_law (T : Tx K mg) (P : Program) (w : World) (base : Heap) : FnD P w K mg base 75 T.f_law T.d_law ["script"] false T.ca fn_law := by
  have sc := sc_law
  refine fn_mkD T.F_law sc (fun cdv A outer s H E hr tk hp => ?_)
  exact dss_cons (ds_set 1 sc.nd rfl (by first | exact Or.inl rfl | exact Or.inr rfl) (de_call (T.G_law_many_by P w base) (fun z => nomatch z) rfl (hr.mono (by decide)) T.m_law_many_by T.F_law_many_by.kp T.b_law_many_by tk (da_cons (de_call (T.G_law_cell_at P w base) (fun z => nomatch z) rfl (hr.mono (by decide)) T.m_law_cell_at T.F_law_cell_at.kp T.b_law_cell_at tk (da_cons (de_var 0) (da_cons (de_int) (da_nil))) (aCons_len (aCons_len (aNil_len)))) (da_nil)) (aCons_len (aNil_len)))) (dss_cons (ds_thenFz 3 (ds_setLc (own := [("k", 2)]) 3 rfl sc.nd rfl rfl (sw_true rfl rfl rfl (by decide +kernel)) (di_range1 (de_var 1) rfl T.n_range) (blkOk_by (N := N_law) (sc := defScope st_law) (by decide +kernel)) (fun _ _ _ _ _ => dg_name 2 sc.nd rfl (by first | exact Or.inl rfl | exact Or.inr rfl)) (fun _ _ _ _ _ => dts_nil) (fun _ _ _ _ _ => de_call (T.G_law_name_by P w base) (fun z => nomatch z) rfl (hr.mono (by decide)) T.m_law_name_by T.F_law_name_by.kp T.b_law_name_by tk0 (da_cons (de_var 2) (da_cons (de_call (T.G_law_cell_at P w base) (fun z => nomatch z) rfl (hr.mono (by decide)) T.m_law_cell_at T.F_law_cell_at.kp T.b_law_cell_at tk0 (da_cons (de_var 0) (da_cons (de_int) (da_nil))) (aCons_len (aCons_len (aNil_len)))) (da_nil))) (aCons_len (aCons_len (aNil_len)))))) (dss_cons (ds_thenFz 4 (ds_setLc (own := [("k", 2)]) 4 rfl sc.nd rfl rfl (sw_true rfl rfl rfl (by decide +kernel)) (di_range1 (de_var 1) rfl T.n_range) (blkOk_by (N := N_law) (sc := defScope st_law) (by decide +kernel)) (fun _ _ _ _ _ => dg_name 2 sc.nd rfl (by first | exact Or.inl rfl | exact Or.inr rfl)) (fun _ _ _ _ _ => dts_nil) (fun _ _ _ _ _ => de_call (T.G_law_name_by P w base) (fun z => nomatch z) rfl (hr.mono (by decide)) T.m_law_name_by T.F_law_name_by.kp T.b_law_name_by tk0 (da_cons (de_var 2) (da_cons (de_call (T.G_law_cell_at P w base) (fun z => nomatch z) rfl (hr.mono (by decide)) T.m_law_cell_at T.F_law_cell_at.kp T.b_law_cell_at tk0 (da_cons (de_var 0) (da_cons (de_int) (da_nil))) (aCons_len (aCons_len (aNil_len)))) (da_nil))) (aCons_len (aCons_len (aNil_len)))))) (dss_cons (ds_unp (de_call (T.G_law_built P w base) (fun z => z) rfl (hr.mono (by decide)) T.m_law_built T.F_law_built.kp T.b_law_built tk (da_cons (de_var 0) (da_cons (de_var 3) (da_cons (de_var 4) (da_nil)))) (aCons_len (aCons_len (aCons_len (aNil_len))))) (dg_tup rfl (dgs_cons (dg_name 5 sc.nd rfl (by first | exact Or.inl rfl | exact Or.inr rfl)) (dgs_cons (dg_name 6 sc.nd rfl (by first | exact Or.inl rfl | exact Or.inr rfl)) (dgs_nil))) (bCons_len (bCons_len (bNil_len))))) (dss_cons (ds_set 7 sc.nd rfl (by first | exact Or.inl rfl | exact Or.inr rfl) (de_newK (dk_nil))) (dss_cons (ds_for hp rfl (di_range1 (de_var 1) rfl T.n_range) (dg_name 2 sc.nd rfl (by first | exact Or.inl rfl | exact Or.inr rfl)) (dss_one (ds_rput hr.units (DE.down (de_var 7)) (de_ix (DE.b (de_var 3)) (DE.b (de_var 2))) (de_call (T.G_law_rank_by P w base) (fun z => nomatch z) rfl (hr.mono (by decide)) T.m_law_rank_by T.F_law_rank_by.kp T.b_law_rank_by tk (da_cons (de_call (T.G_law_cell_at P w base) (fun z => nomatch z) rfl (hr.mono (by decide)) T.m_law_cell_at T.F_law_cell_at.kp T.b_law_cell_at tk (da_cons (de_var 0) (da_cons (de_int) (da_nil))) (aCons_len (aCons_len (aNil_len)))) (da_cons (de_var 2) (da_nil))) (aCons_len (aCons_len (aNil_len))))))) (dss_cons (ds_set 8 sc.nd rfl (by first | exact Or.inl rfl | exact Or.inr rfl) (de_newK (dk_dictK (DE.down (de_var 7)) rfl T.n_dict))) (dss_cons (ds_set 9 sc.nd rfl (by first | exact Or.inl rfl | exact Or.inr rfl) (de_newK (dk_nil))) (dss_cons (ds_for hp rfl (di_range1 (de_var 1) rfl T.n_range) (dg_name 2 sc.nd rfl (by first | exact Or.inl rfl | exact Or.inr rfl)) (dss_one (ds_rput hr.units (DE.down (de_var 9)) (de_ix (DE.b (de_var 3)) (DE.b (de_var 2))) (de_call (T.G_law_rank_by P w base) (fun z => nomatch z) rfl (hr.mono (by decide)) T.m_law_rank_by T.F_law_rank_by.kp T.b_law_rank_by tk (da_cons (de_add (DE.b (de_call (T.G_law_cell_at P w base) (fun z => nomatch z) rfl (hr.mono (by decide)) T.m_law_cell_at T.F_law_cell_at.kp T.b_law_cell_at tk (da_cons (de_var 0) (da_cons (de_int) (da_nil))) (aCons_len (aCons_len (aNil_len))))) (DE.b (de_int))) (da_cons (de_var 2) (da_nil))) (aCons_len (aCons_len (aNil_len))))))) (dss_cons (ds_for hp rfl (di_range1 (de_min2 rfl (DE.b (de_int)) (DE.b (de_mul (DE.b (de_int)) (DE.b (de_var 1)))) rfl rfl T.n_min) rfl T.n_range) (dg_name 2 sc.nd rfl (by first | exact Or.inl rfl | exact Or.inr rfl)) (dss_cons (ds_set 10 sc.nd rfl (by first | exact Or.inl rfl | exact Or.inr rfl) (de_ix (DE.b (de_var 4)) (DE.b (de_mod (DE.b (de_add (DE.b (de_var 2)) (DE.b (de_call (T.G_law_cell_at P w base) (fun z => nomatch z) rfl (hr.mono (by decide)) T.m_law_cell_at T.F_law_cell_at.kp T.b_law_cell_at tk (da_cons (de_var 0) (da_cons (de_int) (da_nil))) (aCons_len (aCons_len (aNil_len))))))) (DE.b (de_var 1)))))) (dss_cons (ds_set 11 sc.nd rfl (by first | exact Or.inl rfl | exact Or.inr rfl) (de_call (T.G_law_heir P w base) (fun z => z) rfl (hr.mono (by decide)) T.m_law_heir T.F_law_heir.kp T.b_law_heir tk (da_cons (de_var 6) (da_cons (DE.down (de_var 7)) (da_cons (de_var 10) (da_nil)))) (aCons_len (aCons_len (aCons_len (aNil_len)))))) (dss_cons (ds_set 12 sc.nd rfl (by first | exact Or.inl rfl | exact Or.inr rfl) (DE.down (de_call (T.G_heir P w base) (fun z => z) rfl (hr.mono (by decide)) T.m_heir T.F_heir.kp T.b_heir tk (da_cons (de_var 5) (da_cons (de_var 8) (da_cons (de_var 10) (da_nil)))) (aCons_len (aCons_len (aCons_len (aNil_len))))))) (dss_cons (ds_if (DW.t (dw_or (dt_ne hr.units (DE.b (de_var 12)) (DE.b (de_var 11))) (dw_or1 (DW.t (dw_and (dt_isn (DE.b (de_var 11)) (DE.b (de_non))) (dw_and1 (dt_not (dt_val (DE.b (de_isi "str" (DE.b (de_var 12)) (by decide +kernel) rfl T.n_str (by decide) (by decide) rfl T.n_isinstance)))))))))) (dss_one (ds_ret (de_bl))) (dss_nil)) (dss_cons (ds_if (DW.t (dw_or (dt_ne hr.units (DE.b (DE.down (de_call (T.G_heir P w base) (fun z => z) rfl (hr.mono (by decide)) T.m_heir T.F_heir.kp T.b_heir tk (da_cons (de_var 5) (da_cons (de_var 9) (da_cons (de_var 10) (da_nil)))) (aCons_len (aCons_len (aCons_len (aNil_len))))))) (DE.b (de_call (T.G_law_heir P w base) (fun z => z) rfl (hr.mono (by decide)) T.m_law_heir T.F_law_heir.kp T.b_law_heir tk (da_cons (de_var 6) (da_cons (DE.down (de_var 9)) (da_cons (de_var 10) (da_nil)))) (aCons_len (aCons_len (aCons_len (aNil_len))))))) (dw_or1 (dt_isn (DE.b (de_call (T.G_heir P w base) (fun z => nomatch z) rfl (hr.mono (by decide)) T.m_heir T.F_heir.kp T.b_heir tk (da_cons (de_mk0 T.mk_Locks (T.G_Locks___init__ P w base) rfl (hr.mono (by decide)) T.mg_Locks T.b_Locks___init__ tk) (da_cons (DE.down (de_var 8)) (da_cons (de_var 10) (da_nil)))) (aCons_len (aCons_len (aCons_len (aNil_len)))))) (DE.b (de_non)))))) (dss_one (ds_ret (de_bl))) (dss_nil)) (dss_cons (ds_set 13 sc.nd rfl (by first | exact Or.inl rfl | exact Or.inr rfl) (DE.down (de_get1 hr.units (db_rd (de_dget hr.units (DE.b (de_var 6)) (DE.b (de_str)))) (DE.b (de_var 10))))) (dss_cons (ds_if (dt_isn (DE.b (de_var 13)) (DE.b (de_non))) (dss_cons (ds_expr (de_mt (de_var 5) T.cl_Locks T.me_Locks_give (T.G_Locks_give P w base) (fun z => z) rfl (hr.mono (by decide)) T.b_Locks_give tk (da_cons (de_var 13) (da_cons (de_var 10) (da_cons (de_var 12) (da_nil)))) (aCons_len (aCons_len (aCons_len (aNil_len)))))) (dss_one (ds_expr (de_call (T.G_law_moved P w base) (fun z => z) rfl (hr.mono (by decide)) T.m_law_moved T.F_law_moved.kp T.b_law_moved tk (da_cons (de_var 6) (da_cons (de_tup (da_cons (de_str) (da_cons (de_var 13) (da_cons (de_var 10) (da_cons (de_var 11) (da_nil)))))) (da_nil))) (aCons_len (aCons_len (aNil_len))))))) (dss_nil)) (dss_cons (ds_set 14 sc.nd rfl (by first | exact Or.inl rfl | exact Or.inr rfl) (de_newK (dk_nil))) (dss_cons (ds_for hp rfl (di_any (DE.down (de_add (DE.b (de_own (do_valsK (de_dget hr.units (DE.b (de_var 6)) (DE.b (de_str))) rfl rfl T.n_list))) (DE.b (de_own (do_keysF (db_rd (de_dget hr.units (DE.b (de_var 6)) (DE.b (de_str)))) rfl rfl T.n_list)))))) (dg_name 15 sc.nd rfl (by first | exact Or.inl rfl | exact Or.inr rfl)) (dss_one (ds_rput hr.units (DE.down (de_var 14)) (de_var 15) (DE.down (de_dget hr.units (db_rd (de_var 7)) (DE.b (de_var 15))))))) (dss_one (ds_if (DW.t (dw_or (dt_ne hr.units (DE.b (DE.down (de_call (T.G_heir P w base) (fun z => z) rfl (hr.mono (by decide)) T.m_heir T.F_heir.kp T.b_heir tk (da_cons (de_var 5) (da_cons (de_var 14) (da_cons (de_var 10) (da_nil)))) (aCons_len (aCons_len (aCons_len (aNil_len))))))) (DE.b (de_call (T.G_law_heir P w base) (fun z => z) rfl (hr.mono (by decide)) T.m_law_heir T.F_law_heir.kp T.b_law_heir tk (da_cons (de_var 6) (da_cons (DE.down (de_var 7)) (da_cons (de_var 10) (da_nil)))) (aCons_len (aCons_len (aCons_len (aNil_len))))))) (dw_or1 (dt_not (dt_val (DE.b (de_call (T.G_law_stays P w base) (fun z => nomatch z) rfl (hr.mono (by decide)) T.m_law_stays T.F_law_stays.kp T.b_law_stays tk (da_cons (de_var 5) (da_cons (de_var 6) (da_cons (de_var 3) (da_nil)))) (aCons_len (aCons_len (aCons_len (aNil_len))))))))))) (dss_one (ds_ret (de_bl))) (dss_nil))))))))))))) (dss_cons (ds_if (DT.down (dt_neKK hr.units (de_var 8) (de_var 7))) (dss_one (ds_ret (de_bl))) (dss_nil)) (dss_cons (ds_for hp rfl (di_any (de_var 3)) (dg_name 16 sc.nd rfl (by first | exact Or.inl rfl | exact Or.inr rfl)) (dss_one (ds_rput hr.units (DE.down (de_var 8)) (de_var 16) (DE.down (de_dget hr.units (db_rd (de_var 9)) (DE.b (de_var 16))))))) (dss_one (ds_ret (de_eq hr.units (DE.b (DE.down (de_call (T.G_heir P w base) (fun z => z) rfl (hr.mono (by decide)) T.m_heir T.F_heir.kp T.b_heir tk (da_cons (de_var 5) (da_cons (de_var 8) (da_cons (de_ix (DE.b (de_var 4)) (DE.b (de_int))) (da_nil)))) (aCons_len (aCons_len (aCons_len (aNil_len))))))) (DE.b (de_call (T.G_law_heir P w base) (fun z => z) rfl (hr.mono (by decide)) T.m_law_heir T.F_law_heir.kp T.b_law_heir tk (da_cons (de_var 6) (da_cons (DE.down (de_var 9)) (da_cons (de_ix (DE.b (de_var 4)) (DE.b (de_int))) (da_nil)))) (aCons_len (aCons_len (aCons_len (aNil_len))))))))))))))))))))
end
/-! ### the end -/
theorem all_mk {l : PySem.W.OpenLaw} {w : World} {K : PySem.W.Frag} {h : Heap} {mg : Str → Option Value} {fa : Addr} (hlaw : ∀ ns : List Int, ns.length ≤ 63 → (∀ z ∈ ns, Builtin.Int.intBits z ≤ 1048576) → ∃ S', fn_law [.scr ns] [] = .ok (.f (.bl true)) S') (X : K.In h) (G : h.Ns mainGlobals mg) (hfa : mg "law" = some (.ref fa))
    {f0 f1 f2 f3 f4 f5 f6 f7 f8 f9 f10 f11 f12 f13 f14 f15 f16 f17 f18 f19 f20 f21 f22 f23 f24 f25 f26 f27 C_Locks C_Known C_Unknown C_Taken C_Free C_Knot C_Strange : Addr}
    {od0 an0 od1 an1 od2 an2 od3 an3 od4 an4 od5 an5 od6 an6 od7 an7 od8 an8 od9 an9 od10 an10 od11 an11 od12 an12 od13 an13 od14 an14 od15 an15 od16 an16 od17 an17 od18 an18 od19 an19 od20 an20 od21 an21 od22 an22 od23 an23 od24 an24 od25 an25 od26 an26 od27 an27 : Option Addr} {sl0 sl1 sl2 sl3 sl4 sl5 sl6 sl7 sl8 sl9 sl10 sl11 sl12 sl13 sl14 sl15 sl16 sl17 sl18 sl19 sl20 sl21 sl22 sl23 sl24 sl25 sl26 sl27 : Array (Option Value)}
    {oc0 kV0 dc0 pm0 cd0 ct0 oc1 kV1 dc1 pm1 cd1 ct1 oc2 kV2 dc2 pm2 cd2 ct2 oc3 kV3 dc3 pm3 cd3 ct3 oc4 kV4 dc4 pm4 cd4 ct4 oc5 kV5 dc5 pm5 cd5 ct5 oc6 kV6 dc6 pm6 cd6 ct6 oc7 kV7 dc7 pm7 cd7 ct7 oc8 kV8 dc8 pm8 cd8 ct8 oc9 kV9 dc9 pm9 cd9 ct9 oc10 kV10 dc10 pm10 cd10 ct10 oc11 kV11 dc11 pm11 cd11 ct11 oc12 kV12 dc12 pm12 cd12 ct12 oc13 kV13 dc13 pm13 cd13 ct13 oc14 kV14 dc14 pm14 cd14 ct14 oc15 kV15 dc15 pm15 cd15 ct15 oc16 kV16 dc16 pm16 cd16 ct16 oc17 kV17 dc17 pm17 cd17 ct17 oc18 kV18 dc18 pm18 cd18 ct18 oc19 kV19 dc19 pm19 cd19 ct19 oc20 kV20 dc20 pm20 cd20 ct20 oc21 kV21 dc21 pm21 cd21 ct21 oc22 kV22 dc22 pm22 cd22 ct22 oc23 kV23 dc23 pm23 cd23 ct23 oc24 kV24 dc24 pm24 cd24 ct24 oc25 kV25 dc25 pm25 cd25 ct25 oc26 kV26 dc26 pm26 cd26 ct26 oc27 kV27 dc27 pm27 cd27 ct27 : Value}
    (g_Locks : PySem.W.nsIn K mainGlobals "Locks" = some (some (.ref C_Locks)))
    (g_Known : PySem.W.nsIn K mainGlobals "Known" = some (some (.ref C_Known)))
    (g_Unknown : PySem.W.nsIn K mainGlobals "Unknown" = some (some (.ref C_Unknown)))
    (g_Taken : PySem.W.nsIn K mainGlobals "Taken" = some (some (.ref C_Taken)))
    (g_Free : PySem.W.nsIn K mainGlobals "Free" = some (some (.ref C_Free)))
    (g_Knot : PySem.W.nsIn K mainGlobals "Knot" = some (some (.ref C_Knot)))
    (g_Strange : PySem.W.nsIn K mainGlobals "Strange" = some (some (.ref C_Strange)))
    (a0 : PySem.W.findIn K (.ref C_Locks) "held" = some (some (.ref f0)))
    (l0 : K.lookup f0 = some ⟨oc0, od0, .func (PySem.W.fnOf "held" "Locks.held" (defArgs st_Locks_held) (defBody st_Locks_held) (defScope st_Locks_held) .none kV0 dc0 pm0 an0 cd0 ct0), sl0⟩)
    (c0 : PySem.W.codeIn K cd0 "Locks.held" = true)
    (k0 : PySem.W.keepIn K (.ref f0) = true)
    (i0 : PySem.W.isFn K (.ref f0) = true)
    (a1 : PySem.W.findIn K (.ref C_Locks) "waiting" = some (some (.ref f1)))
    (l1 : K.lookup f1 = some ⟨oc1, od1, .func (PySem.W.fnOf "waiting" "Locks.waiting" (defArgs st_Locks_waiting) (defBody st_Locks_waiting) (defScope st_Locks_waiting) .none kV1 dc1 pm1 an1 cd1 ct1), sl1⟩)
    (c1 : PySem.W.codeIn K cd1 "Locks.waiting" = true)
    (k1 : PySem.W.keepIn K (.ref f1) = true)
    (i1 : PySem.W.isFn K (.ref f1) = true)
    (a2 : PySem.W.nsIn K mainGlobals "waiters" = some (some (.ref f2)))
    (l2 : K.lookup f2 = some ⟨oc2, od2, .func (PySem.W.fnOf "waiters" "waiters" (defArgs st_waiters) (defBody st_waiters) (defScope st_waiters) .none kV2 dc2 pm2 an2 cd2 ct2), sl2⟩)
    (c2 : PySem.W.codeIn K cd2 "waiters" = true)
    (k2 : PySem.W.keepIn K (.ref f2) = true)
    (a3 : PySem.W.nsIn K mainGlobals "lent" = some (some (.ref f3)))
    (l3 : K.lookup f3 = some ⟨oc3, od3, .func (PySem.W.fnOf "lent" "lent" (defArgs st_lent) (defBody st_lent) (defScope st_lent) .none kV3 dc3 pm3 an3 cd3 ct3), sl3⟩)
    (c3 : PySem.W.codeIn K cd3 "lent" = true)
    (k3 : PySem.W.keepIn K (.ref f3) = true)
    (a4 : PySem.W.nsIn K mainGlobals "heir" = some (some (.ref f4)))
    (l4 : K.lookup f4 = some ⟨oc4, od4, .func (PySem.W.fnOf "heir" "heir" (defArgs st_heir) (defBody st_heir) (defScope st_heir) .none kV4 dc4 pm4 an4 cd4 ct4), sl4⟩)
    (c4 : PySem.W.codeIn K cd4 "heir" = true)
    (k4 : PySem.W.keepIn K (.ref f4) = true)
    (a5 : PySem.W.findIn K (.ref C_Locks) "holder" = some (some (.ref f5)))
    (l5 : K.lookup f5 = some ⟨oc5, od5, .func (PySem.W.fnOf "holder" "Locks.holder" (defArgs st_Locks_holder) (defBody st_Locks_holder) (defScope st_Locks_holder) .none kV5 dc5 pm5 an5 cd5 ct5), sl5⟩)
    (c5 : PySem.W.codeIn K cd5 "Locks.holder" = true)
    (k5 : PySem.W.keepIn K (.ref f5) = true)
    (i5 : PySem.W.isFn K (.ref f5) = true)
    (a6 : PySem.W.findIn K (.ref C_Locks) "wanted" = some (some (.ref f6)))
    (l6 : K.lookup f6 = some ⟨oc6, od6, .func (PySem.W.fnOf "wanted" "Locks.wanted" (defArgs st_Locks_wanted) (defBody st_Locks_wanted) (defScope st_Locks_wanted) .none kV6 dc6 pm6 an6 cd6 ct6), sl6⟩)
    (c6 : PySem.W.codeIn K cd6 "Locks.wanted" = true)
    (k6 : PySem.W.keepIn K (.ref f6) = true)
    (i6 : PySem.W.isFn K (.ref f6) = true)
    (a7 : PySem.W.nsIn K mainGlobals "arrow" = some (some (.ref f7)))
    (l7 : K.lookup f7 = some ⟨oc7, od7, .func (PySem.W.fnOf "arrow" "arrow" (defArgs st_arrow) (defBody st_arrow) (defScope st_arrow) .none kV7 dc7 pm7 an7 cd7 ct7), sl7⟩)
    (c7 : PySem.W.codeIn K cd7 "arrow" = true)
    (k7 : PySem.W.keepIn K (.ref f7) = true)
    (a8 : PySem.W.nsIn K mainGlobals "ring" = some (some (.ref f8)))
    (l8 : K.lookup f8 = some ⟨oc8, od8, .func (PySem.W.fnOf "ring" "ring" (defArgs st_ring) (defBody st_ring) (defScope st_ring) .none kV8 dc8 pm8 an8 cd8 ct8), sl8⟩)
    (c8 : PySem.W.codeIn K cd8 "ring" = true)
    (k8 : PySem.W.keepIn K (.ref f8) = true)
    (a9 : PySem.W.findIn K (.ref C_Locks) "__init__" = some (some (.ref f9)))
    (l9 : K.lookup f9 = some ⟨oc9, od9, .func (PySem.W.fnOf "__init__" "Locks.__init__" (defArgs st_Locks___init__) (defBody st_Locks___init__) (defScope st_Locks___init__) .none kV9 dc9 pm9 an9 cd9 ct9), sl9⟩)
    (c9 : PySem.W.codeIn K cd9 "Locks.__init__" = true)
    (k9 : PySem.W.keepIn K (.ref f9) = true)
    (i9 : PySem.W.isFn K (.ref f9) = true)
    (a10 : PySem.W.findIn K (.ref C_Locks) "get" = some (some (.ref f10)))
    (l10 : K.lookup f10 = some ⟨oc10, od10, .func (PySem.W.fnOf "get" "Locks.get" (defArgs st_Locks_get) (defBody st_Locks_get) (defScope st_Locks_get) .none kV10 dc10 pm10 an10 cd10 ct10), sl10⟩)
    (c10 : PySem.W.codeIn K cd10 "Locks.get" = true)
    (k10 : PySem.W.keepIn K (.ref f10) = true)
    (i10 : PySem.W.isFn K (.ref f10) = true)
    (a11 : PySem.W.findIn K (.ref C_Locks) "want" = some (some (.ref f11)))
    (l11 : K.lookup f11 = some ⟨oc11, od11, .func (PySem.W.fnOf "want" "Locks.want" (defArgs st_Locks_want) (defBody st_Locks_want) (defScope st_Locks_want) .none kV11 dc11 pm11 an11 cd11 ct11), sl11⟩)
    (c11 : PySem.W.codeIn K cd11 "Locks.want" = true)
    (k11 : PySem.W.keepIn K (.ref f11) = true)
    (i11 : PySem.W.isFn K (.ref f11) = true)
    (a12 : PySem.W.findIn K (.ref C_Locks) "give" = some (some (.ref f12)))
    (l12 : K.lookup f12 = some ⟨oc12, od12, .func (PySem.W.fnOf "give" "Locks.give" (defArgs st_Locks_give) (defBody st_Locks_give) (defScope st_Locks_give) .none kV12 dc12 pm12 an12 cd12 ct12), sl12⟩)
    (c12 : PySem.W.codeIn K cd12 "Locks.give" = true)
    (k12 : PySem.W.keepIn K (.ref f12) = true)
    (i12 : PySem.W.isFn K (.ref f12) = true)
    (a13 : PySem.W.nsIn K mainGlobals "_law_cell_at" = some (some (.ref f13)))
    (l13 : K.lookup f13 = some ⟨oc13, od13, .func (PySem.W.fnOf "_law_cell_at" "_law_cell_at" (defArgs st_law_cell_at) (defBody st_law_cell_at) (defScope st_law_cell_at) .none kV13 dc13 pm13 an13 cd13 ct13), sl13⟩)
    (c13 : PySem.W.codeIn K cd13 "_law_cell_at" = true)
    (k13 : PySem.W.keepIn K (.ref f13) = true)
    (a14 : PySem.W.nsIn K mainGlobals "_law_mixed" = some (some (.ref f14)))
    (l14 : K.lookup f14 = some ⟨oc14, od14, .func (PySem.W.fnOf "_law_mixed" "_law_mixed" (defArgs st_law_mixed) (defBody st_law_mixed) (defScope st_law_mixed) .none kV14 dc14 pm14 an14 cd14 ct14), sl14⟩)
    (c14 : PySem.W.codeIn K cd14 "_law_mixed" = true)
    (k14 : PySem.W.keepIn K (.ref f14) = true)
    (a15 : PySem.W.nsIn K mainGlobals "_law_name_by" = some (some (.ref f15)))
    (l15 : K.lookup f15 = some ⟨oc15, od15, .func (PySem.W.fnOf "_law_name_by" "_law_name_by" (defArgs st_law_name_by) (defBody st_law_name_by) (defScope st_law_name_by) .none kV15 dc15 pm15 an15 cd15 ct15), sl15⟩)
    (c15 : PySem.W.codeIn K cd15 "_law_name_by" = true)
    (k15 : PySem.W.keepIn K (.ref f15) = true)
    (a16 : PySem.W.nsIn K mainGlobals "_law_new" = some (some (.ref f16)))
    (l16 : K.lookup f16 = some ⟨oc16, od16, .func (PySem.W.fnOf "_law_new" "_law_new" (defArgs st_law_new) (defBody st_law_new) (defScope st_law_new) .none kV16 dc16 pm16 an16 cd16 ct16), sl16⟩)
    (c16 : PySem.W.codeIn K cd16 "_law_new" = true)
    (k16 : PySem.W.keepIn K (.ref f16) = true)
    (a17 : PySem.W.nsIn K mainGlobals "_law_ring" = some (some (.ref f17)))
    (l17 : K.lookup f17 = some ⟨oc17, od17, .func (PySem.W.fnOf "_law_ring" "_law_ring" (defArgs st_law_ring) (defBody st_law_ring) (defScope st_law_ring) .none kV17 dc17 pm17 an17 cd17 ct17), sl17⟩)
    (c17 : PySem.W.codeIn K cd17 "_law_ring" = true)
    (k17 : PySem.W.keepIn K (.ref f17) = true)
    (a18 : PySem.W.nsIn K mainGlobals "_law_due" = some (some (.ref f18)))
    (l18 : K.lookup f18 = some ⟨oc18, od18, .func (PySem.W.fnOf "_law_due" "_law_due" (defArgs st_law_due) (defBody st_law_due) (defScope st_law_due) .none kV18 dc18 pm18 an18 cd18 ct18), sl18⟩)
    (c18 : PySem.W.codeIn K cd18 "_law_due" = true)
    (k18 : PySem.W.keepIn K (.ref f18) = true)
    (a19 : PySem.W.nsIn K mainGlobals "_law_moved" = some (some (.ref f19)))
    (l19 : K.lookup f19 = some ⟨oc19, od19, .func (PySem.W.fnOf "_law_moved" "_law_moved" (defArgs st_law_moved) (defBody st_law_moved) (defScope st_law_moved) .none kV19 dc19 pm19 an19 cd19 ct19), sl19⟩)
    (c19 : PySem.W.codeIn K cd19 "_law_moved" = true)
    (k19 : PySem.W.keepIn K (.ref f19) = true)
    (a20 : PySem.W.nsIn K mainGlobals "_law_taken" = some (some (.ref f20)))
    (l20 : K.lookup f20 = some ⟨oc20, od20, .func (PySem.W.fnOf "_law_taken" "_law_taken" (defArgs st_law_taken) (defBody st_law_taken) (defScope st_law_taken) .none kV20 dc20 pm20 an20 cd20 ct20), sl20⟩)
    (c20 : PySem.W.codeIn K cd20 "_law_taken" = true)
    (k20 : PySem.W.keepIn K (.ref f20) = true)
    (a21 : PySem.W.nsIn K mainGlobals "_law_built" = some (some (.ref f21)))
    (l21 : K.lookup f21 = some ⟨oc21, od21, .func (PySem.W.fnOf "_law_built" "_law_built" (defArgs st_law_built) (defBody st_law_built) (defScope st_law_built) .none kV21 dc21 pm21 an21 cd21 ct21), sl21⟩)
    (c21 : PySem.W.codeIn K cd21 "_law_built" = true)
    (k21 : PySem.W.keepIn K (.ref f21) = true)
    (a22 : PySem.W.nsIn K mainGlobals "_law_many_by" = some (some (.ref f22)))
    (l22 : K.lookup f22 = some ⟨oc22, od22, .func (PySem.W.fnOf "_law_many_by" "_law_many_by" (defArgs st_law_many_by) (defBody st_law_many_by) (defScope st_law_many_by) .none kV22 dc22 pm22 an22 cd22 ct22), sl22⟩)
    (c22 : PySem.W.codeIn K cd22 "_law_many_by" = true)
    (k22 : PySem.W.keepIn K (.ref f22) = true)
    (a23 : PySem.W.nsIn K mainGlobals "_law_rank_by" = some (some (.ref f23)))
    (l23 : K.lookup f23 = some ⟨oc23, od23, .func (PySem.W.fnOf "_law_rank_by" "_law_rank_by" (defArgs st_law_rank_by) (defBody st_law_rank_by) (defScope st_law_rank_by) .none kV23 dc23 pm23 an23 cd23 ct23), sl23⟩)
    (c23 : PySem.W.codeIn K cd23 "_law_rank_by" = true)
    (k23 : PySem.W.keepIn K (.ref f23) = true)
    (a24 : PySem.W.nsIn K mainGlobals "_law_lent" = some (some (.ref f24)))
    (l24 : K.lookup f24 = some ⟨oc24, od24, .func (PySem.W.fnOf "_law_lent" "_law_lent" (defArgs st_law_lent) (defBody st_law_lent) (defScope st_law_lent) .none kV24 dc24 pm24 an24 cd24 ct24), sl24⟩)
    (c24 : PySem.W.codeIn K cd24 "_law_lent" = true)
    (k24 : PySem.W.keepIn K (.ref f24) = true)
    (a25 : PySem.W.nsIn K mainGlobals "_law_heir" = some (some (.ref f25)))
    (l25 : K.lookup f25 = some ⟨oc25, od25, .func (PySem.W.fnOf "_law_heir" "_law_heir" (defArgs st_law_heir) (defBody st_law_heir) (defScope st_law_heir) .none kV25 dc25 pm25 an25 cd25 ct25), sl25⟩)
    (c25 : PySem.W.codeIn K cd25 "_law_heir" = true)
    (k25 : PySem.W.keepIn K (.ref f25) = true)
    (a26 : PySem.W.nsIn K mainGlobals "_law_stays" = some (some (.ref f26)))
    (l26 : K.lookup f26 = some ⟨oc26, od26, .func (PySem.W.fnOf "_law_stays" "_law_stays" (defArgs st_law_stays) (defBody st_law_stays) (defScope st_law_stays) .none kV26 dc26 pm26 an26 cd26 ct26), sl26⟩)
    (c26 : PySem.W.codeIn K cd26 "_law_stays" = true)
    (k26 : PySem.W.keepIn K (.ref f26) = true)
    (a27 : PySem.W.nsIn K mainGlobals "law" = some (some (.ref f27)))
    (l27 : K.lookup f27 = some ⟨oc27, od27, .func (PySem.W.fnOf "law" "law" (defArgs st_law) (defBody st_law) (defScope st_law) .none kV27 dc27 pm27 an27 cd27 ct27), sl27⟩)
    (c27 : PySem.W.codeIn K cd27 "law" = true)
    (k27 : PySem.W.keepIn K (.ref f27) = true)
    (z_dict : PySem.W.nsIn K mainGlobals "dict" = some none)
    (z_int : PySem.W.nsIn K mainGlobals "int" = some none)
    (z_isinstance : PySem.W.nsIn K mainGlobals "isinstance" = some none)
    (z_len : PySem.W.nsIn K mainGlobals "len" = some none)
    (z_list : PySem.W.nsIn K mainGlobals "list" = some none)
    (z_max : PySem.W.nsIn K mainGlobals "max" = some none)
    (z_min : PySem.W.nsIn K mainGlobals "min" = some none)
    (z_range : PySem.W.nsIn K mainGlobals "range" = some none)
    (z_str : PySem.W.nsIn K mainGlobals "str" = some none)
    (pg_Locks : PySem.W.plainGet K C_Locks Str.empty = true)
    (hd_Locks : PySem.W.hasDictIn K C_Locks = true)
    (po_Locks : PySem.W.plainOver K C_Locks = true)
    (sa_Locks : PySem.W.findIn K (.ref C_Locks) "__setattr__" = some (some (.builtin "object.__setattr__")))
    (nf_holders : PySem.W.findIn K (.ref C_Locks) "holders" = some none)
    (nf_lines : PySem.W.findIn K (.ref C_Locks) "lines" = some none)
    (nf_owns : PySem.W.findIn K (.ref C_Locks) "owns" = some none)
    (nf_wants : PySem.W.findIn K (.ref C_Locks) "wants" = some none)
    (mm_Locks : PySem.W.makesIn K C_Locks = true)
    (kc_Locks : PySem.W.keepIn K (.ref C_Locks) = true)
    (xq_Known : PySem.W.excIn K C_Known [.type "ValueError", .type "Exception", .type "BaseException", .type "object"] "ValueError.__new__" = true)
    (xk_Known : PySem.W.keepIn K (.ref C_Known) = true)
    (xb_Known : PySem.W.subIn K (.ref C_Known) (.type "BaseException") = some true)
    (xt_Known : PySem.W.typeIn K (.ref C_Known) = some (.type "type"))
    (xi_Known : PySem.W.isClsIn K C_Known = true)
    (xq_Unknown : PySem.W.excIn K C_Unknown [.type "ValueError", .type "Exception", .type "BaseException", .type "object"] "ValueError.__new__" = true)
    (xk_Unknown : PySem.W.keepIn K (.ref C_Unknown) = true)
    (xb_Unknown : PySem.W.subIn K (.ref C_Unknown) (.type "BaseException") = some true)
    (xt_Unknown : PySem.W.typeIn K (.ref C_Unknown) = some (.type "type"))
    (xi_Unknown : PySem.W.isClsIn K C_Unknown = true)
    (xq_Taken : PySem.W.excIn K C_Taken [.type "ValueError", .type "Exception", .type "BaseException", .type "object"] "ValueError.__new__" = true)
    (xk_Taken : PySem.W.keepIn K (.ref C_Taken) = true)
    (xb_Taken : PySem.W.subIn K (.ref C_Taken) (.type "BaseException") = some true)
    (xt_Taken : PySem.W.typeIn K (.ref C_Taken) = some (.type "type"))
    (xi_Taken : PySem.W.isClsIn K C_Taken = true)
    (xq_Free : PySem.W.excIn K C_Free [.type "ValueError", .type "Exception", .type "BaseException", .type "object"] "ValueError.__new__" = true)
    (xk_Free : PySem.W.keepIn K (.ref C_Free) = true)
    (xb_Free : PySem.W.subIn K (.ref C_Free) (.type "BaseException") = some true)
    (xt_Free : PySem.W.typeIn K (.ref C_Free) = some (.type "type"))
    (xi_Free : PySem.W.isClsIn K C_Free = true)
    (xq_Knot : PySem.W.excIn K C_Knot [.type "ValueError", .type "Exception", .type "BaseException", .type "object"] "ValueError.__new__" = true)
    (xk_Knot : PySem.W.keepIn K (.ref C_Knot) = true)
    (xb_Knot : PySem.W.subIn K (.ref C_Knot) (.type "BaseException") = some true)
    (xt_Knot : PySem.W.typeIn K (.ref C_Knot) = some (.type "type"))
    (xi_Knot : PySem.W.isClsIn K C_Knot = true)
    (xq_Strange : PySem.W.excIn K C_Strange [.type "ValueError", .type "Exception", .type "BaseException", .type "object"] "ValueError.__new__" = true)
    (xk_Strange : PySem.W.keepIn K (.ref C_Strange) = true)
    (xb_Strange : PySem.W.subIn K (.ref C_Strange) (.type "BaseException") = some true)
    (xt_Strange : PySem.W.typeIn K (.ref C_Strange) = some (.type "type"))
    (xi_Strange : PySem.W.isClsIn K C_Strange = true)
    : ∃ fd : FuncData, (∀ (s : Shared) (v : Value), BindsTo s fd ⟨[v], []⟩ [("script", v)]) ∧ ∀ base : Heap, K.In base → base.Ns mainGlobals mg → FnOk l.prog w K mg base (CXf l.prog w) 75 fa fd ["script"] (lawSpB K) := by
  have e := hfa.symm.trans (PySem.W.mg_of X G a27)
  cases e
  obtain ⟨ad, had⟩ : ∃ ad : Str → Addr, ad = fun (s : Str) => if s = "Locks" then C_Locks else if s = "Known" then C_Known else if s = "Unknown" then C_Unknown else if s = "Taken" then C_Taken else if s = "Free" then C_Free else if s = "Knot" then C_Knot else if s = "Strange" then C_Strange else 0 := ⟨_, rfl⟩
  have q_Locks : ad "Locks" = C_Locks := (congrFun had _).trans (if_pos rfl)
  have q_Known : ad "Known" = C_Known := (congrFun had _).trans ((if_neg (by decide)).trans (if_pos rfl))
  have q_Unknown : ad "Unknown" = C_Unknown := (congrFun had _).trans ((if_neg (by decide)).trans ((if_neg (by decide)).trans (if_pos rfl)))
  have q_Taken : ad "Taken" = C_Taken := (congrFun had _).trans ((if_neg (by decide)).trans ((if_neg (by decide)).trans ((if_neg (by decide)).trans (if_pos rfl))))
  have q_Free : ad "Free" = C_Free := (congrFun had _).trans ((if_neg (by decide)).trans ((if_neg (by decide)).trans ((if_neg (by decide)).trans ((if_neg (by decide)).trans (if_pos rfl)))))
  have q_Knot : ad "Knot" = C_Knot := (congrFun had _).trans ((if_neg (by decide)).trans ((if_neg (by decide)).trans ((if_neg (by decide)).trans ((if_neg (by decide)).trans ((if_neg (by decide)).trans (if_pos rfl))))))
  have q_Strange : ad "Strange" = C_Strange := (congrFun had _).trans ((if_neg (by decide)).trans ((if_neg (by decide)).trans ((if_neg (by decide)).trans ((if_neg (by decide)).trans ((if_neg (by decide)).trans ((if_neg (by decide)).trans (if_pos rfl)))))))
  have F0 := fun_mk (st := st_Locks_held) l0 c0 k0
  have b0 := F0.binds (ps := ["self", "name"]) fun _ _ _ _ _ _ us hl => match us, hl with | [_, _], _ => rfl
  have F1 := fun_mk (st := st_Locks_waiting) l1 c1 k1
  have b1 := F1.binds (ps := ["self", "lock"]) fun _ _ _ _ _ _ us hl => match us, hl with | [_, _], _ => rfl
  have F2 := fun_mk (st := st_waiters) l2 c2 k2
  have b2 := F2.binds (ps := ["locks", "name"]) fun _ _ _ _ _ _ us hl => match us, hl with | [_, _], _ => rfl
  have F3 := fun_mk (st := st_lent) l3 c3 k3
  have b3 := F3.binds (ps := ["locks", "ranks", "name"]) fun _ _ _ _ _ _ us hl => match us, hl with | [_, _, _], _ => rfl
  have F4 := fun_mk (st := st_heir) l4 c4 k4
  have b4 := F4.binds (ps := ["locks", "ranks", "lock"]) fun _ _ _ _ _ _ us hl => match us, hl with | [_, _, _], _ => rfl
  have F5 := fun_mk (st := st_Locks_holder) l5 c5 k5
  have b5 := F5.binds (ps := ["self", "lock"]) fun _ _ _ _ _ _ us hl => match us, hl with | [_, _], _ => rfl
  have F6 := fun_mk (st := st_Locks_wanted) l6 c6 k6
  have b6 := F6.binds (ps := ["self", "name"]) fun _ _ _ _ _ _ us hl => match us, hl with | [_, _], _ => rfl
  have F7 := fun_mk (st := st_arrow) l7 c7 k7
  have b7 := F7.binds (ps := ["locks", "name"]) fun _ _ _ _ _ _ us hl => match us, hl with | [_, _], _ => rfl
  have F8 := fun_mk (st := st_ring) l8 c8 k8
  have b8 := F8.binds (ps := ["locks", "name", "lock"]) fun _ _ _ _ _ _ us hl => match us, hl with | [_, _, _], _ => rfl
  have F9 := fun_mk (st := st_Locks___init__) l9 c9 k9
  have b9 := F9.binds (ps := ["self"]) fun _ _ _ _ _ _ us hl => match us, hl with | [_], _ => rfl
  have F10 := fun_mk (st := st_Locks_get) l10 c10 k10
  have b10 := F10.binds (ps := ["self", "name", "lock"]) fun _ _ _ _ _ _ us hl => match us, hl with | [_, _, _], _ => rfl
  have F11 := fun_mk (st := st_Locks_want) l11 c11 k11
  have b11 := F11.binds (ps := ["self", "name", "lock"]) fun _ _ _ _ _ _ us hl => match us, hl with | [_, _, _], _ => rfl
  have F12 := fun_mk (st := st_Locks_give) l12 c12 k12
  have b12 := F12.binds (ps := ["self", "name", "lock", "heir"]) fun _ _ _ _ _ _ us hl => match us, hl with | [_, _, _, _], _ => rfl
  have F13 := fun_mk (st := st_law_cell_at) l13 c13 k13
  have b13 := F13.binds (ps := ["script", "k"]) fun _ _ _ _ _ _ us hl => match us, hl with | [_, _], _ => rfl
  have F14 := fun_mk (st := st_law_mixed) l14 c14 k14
  have b14 := F14.binds (ps := ["cell", "many"]) fun _ _ _ _ _ _ us hl => match us, hl with | [_, _], _ => rfl
  have F15 := fun_mk (st := st_law_name_by) l15 c15 k15
  have b15 := F15.binds (ps := ["k", "cell"]) fun _ _ _ _ _ _ us hl => match us, hl with | [_, _], _ => rfl
  have F16 := fun_mk (st := st_law_new) l16 c16 k16
  have b16 := F16.binds (ps := []) fun _ _ _ _ _ _ us hl => match us, hl with | [], _ => rfl
  have F17 := fun_mk (st := st_law_ring) l17 c17 k17
  have b17 := F17.binds (ps := ["state", "name", "lock"]) fun _ _ _ _ _ _ us hl => match us, hl with | [_, _, _], _ => rfl
  have F18 := fun_mk (st := st_law_due) l18 c18 k18
  have b18 := F18.binds (ps := ["state", "deed"]) fun _ _ _ _ _ _ us hl => match us, hl with | [_, _], _ => rfl
  have F19 := fun_mk (st := st_law_moved) l19 c19 k19
  have b19 := F19.binds (ps := ["state", "deed"]) fun _ _ _ _ _ _ us hl => match us, hl with | [_, _], _ => rfl
  have F20 := fun_mk (st := st_law_taken) l20 c20 k20
  have b20 := F20.binds (ps := ["locks", "state", "name", "lock"]) fun _ _ _ _ _ _ us hl => match us, hl with | [_, _, _, _], _ => rfl
  have F21 := fun_mk (st := st_law_built) l21 c21 k21
  have b21 := F21.binds (ps := ["script", "names", "some"]) fun _ _ _ _ _ _ us hl => match us, hl with | [_, _, _], _ => rfl
  have F22 := fun_mk (st := st_law_many_by) l22 c22 k22
  have b22 := F22.binds (ps := ["cell"]) fun _ _ _ _ _ _ us hl => match us, hl with | [_], _ => rfl
  have F23 := fun_mk (st := st_law_rank_by) l23 c23 k23
  have b23 := F23.binds (ps := ["cell", "k"]) fun _ _ _ _ _ _ us hl => match us, hl with | [_, _], _ => rfl
  have F24 := fun_mk (st := st_law_lent) l24 c24 k24
  have b24 := F24.binds (ps := ["state", "ranks"]) fun _ _ _ _ _ _ us hl => match us, hl with | [_, _], _ => rfl
  have F25 := fun_mk (st := st_law_heir) l25 c25 k25
  have b25 := F25.binds (ps := ["state", "ranks", "lock"]) fun _ _ _ _ _ _ us hl => match us, hl with | [_, _, _], _ => rfl
  have F26 := fun_mk (st := st_law_stays) l26 c26 k26
  have b26 := F26.binds (ps := ["locks", "state", "names"]) fun _ _ _ _ _ _ us hl => match us, hl with | [_, _, _], _ => rfl
  have F27 := fun_mk (st := st_law) l27 c27 k27
  have b27 := F27.binds (ps := ["script"]) fun _ _ _ _ _ _ us hl => match us, hl with | [_], _ => rfl
  have T : { T : Tx K mg // T.f_law = fa ∧ T.d_law = PySem.W.fnOf "law" "law" (defArgs st_law) (defBody st_law) (defScope st_law) .none kV27 dc27 pm27 an27 cd27 ct27 } := ⟨⟨ad, f0, _, F0, b0, f1, _, F1, b1, f2, _, F2, PySem.W.mg_of X G a2, b2, f3, _, F3, PySem.W.mg_of X G a3, b3, f4, _, F4, PySem.W.mg_of X G a4, b4, f5, _, F5, b5, f6, _, F6, b6, f7, _, F7, PySem.W.mg_of X G a7, b7, f8, _, F8, PySem.W.mg_of X G a8, b8, f9, _, F9, b9, f10, _, F10, b10, f11, _, F11, b11, f12, _, F12, b12, f13, _, F13, PySem.W.mg_of X G a13, b13, f14, _, F14, PySem.W.mg_of X G a14, b14, f15, _, F15, PySem.W.mg_of X G a15, b15, f16, _, F16, PySem.W.mg_of X G a16, b16, f17, _, F17, PySem.W.mg_of X G a17, b17, f18, _, F18, PySem.W.mg_of X G a18, b18, f19, _, F19, PySem.W.mg_of X G a19, b19, f20, _, F20, PySem.W.mg_of X G a20, b20, f21, _, F21, PySem.W.mg_of X G a21, b21, f22, _, F22, PySem.W.mg_of X G a22, b22, f23, _, F23, PySem.W.mg_of X G a23, b23, f24, _, F24, PySem.W.mg_of X G a24, b24, f25, _, F25, PySem.W.mg_of X G a25, b25, f26, _, F26, PySem.W.mg_of X G a26, b26, fa, _, F27, PySem.W.mg_of X G a27, b27, PySem.W.mg_none_of X G z_dict, PySem.W.mg_none_of X G z_int, PySem.W.mg_none_of X G z_isinstance, PySem.W.mg_none_of X G z_len, PySem.W.mg_none_of X G z_list, PySem.W.mg_none_of X G z_max, PySem.W.mg_none_of X G z_min, PySem.W.mg_none_of X G z_range, PySem.W.mg_none_of X G z_str, by rw [q_Locks]; exact ⟨pg_Locks, hd_Locks, po_Locks, sa_Locks⟩, by rw [q_Locks]; exact nf_holders, by rw [q_Locks]; exact nf_lines, by rw [q_Locks]; exact nf_owns, by rw [q_Locks]; exact nf_wants, by rw [q_Locks]; exact ⟨a0, i0, k0⟩, by rw [q_Locks]; exact ⟨a1, i1, k1⟩, by rw [q_Locks]; exact ⟨a5, i5, k5⟩, by rw [q_Locks]; exact ⟨a6, i6, k6⟩, by rw [q_Locks]; exact ⟨a10, i10, k10⟩, by rw [q_Locks]; exact ⟨a11, i11, k11⟩, by rw [q_Locks]; exact ⟨a12, i12, k12⟩, by rw [q_Locks]; exact ⟨mm_Locks, a9, i9, kc_Locks⟩, by rw [q_Locks]; exact PySem.W.mg_of X G g_Locks, by rw [q_Known]; exact ⟨xq_Known, PySem.W.mg_of X G g_Known, xk_Known, xb_Known, xt_Known, xi_Known⟩, by rw [q_Unknown]; exact ⟨xq_Unknown, PySem.W.mg_of X G g_Unknown, xk_Unknown, xb_Unknown, xt_Unknown, xi_Unknown⟩, by rw [q_Taken]; exact ⟨xq_Taken, PySem.W.mg_of X G g_Taken, xk_Taken, xb_Taken, xt_Taken, xi_Taken⟩, by rw [q_Free]; exact ⟨xq_Free, PySem.W.mg_of X G g_Free, xk_Free, xb_Free, xt_Free, xi_Free⟩, by rw [q_Knot]; exact ⟨xq_Knot, PySem.W.mg_of X G g_Knot, xk_Knot, xb_Knot, xt_Knot, xi_Knot⟩, by rw [q_Strange]; exact ⟨xq_Strange, PySem.W.mg_of X G g_Strange, xk_Strange, xb_Strange, xt_Strange, xi_Strange⟩⟩, rfl, rfl⟩
  obtain ⟨T, e1, e2⟩ := T
  exact ⟨PySem.W.fnOf "law" "law" (defArgs st_law) (defBody st_law) (defScope st_law) .none kV27 dc27 pm27 an27 cd27 ct27, fun s v => .of_eq rfl, fun base _ _ => by rw [← e1, ← e2]; exact (T.G_law l.prog w base).imp (law_impB rfl hlaw)⟩
theorem walk {l : PySem.W.OpenLaw} {q : Program} {loose : List Str} {XP : (Str → Option Value) → Heap → Prop} {YP : World → Heap → Prop} {d : DefRec} {K : Params → PySem.W.Frag} (hn : l.most = some 63) (hdf : d.params.defaults = [])
    (hY : ∀ (w : World) (h : Heap), YP w h → (K w.params).In h)
    (F : ∀ (w : World) (mg : Str → Option Value) (fa : Addr) (h : Heap), (K w.params).In h → h.Ns mainGlobals mg → mg d.name = some (.ref fa) →
      ∃ fd : FuncData, (∀ (s : Shared) (u : Value), BindsTo s fd ⟨[u], []⟩ [("script", u)]) ∧ ∀ base : Heap, (K w.params).In base → base.Ns mainGlobals mg → FnOk l.prog w (K w.params) mg base (CXf l.prog w) 75 fa fd ["script"] (lawSpB (K w.params))) :
    PySem.W.WalkO q loose XP YP l.row.toRowW d [] (fun f vs => PySem.call f vs) :=
  L2.walk_ofB (n := 63) (k := 75) (x := "script") (CX := fun w => CXf l.prog w) (sp := fun w => lawSpB (K w.params)) hn (by decide) hdf ⟨rfl, by decide, by decide⟩ hY F
    (fun _ _ a ns hl hb hO hS => ⟨a, ns, rfl, hl, hb, hO, hS, fun _ => rfl⟩) fun _ _ _ _ _ ⟨_, _, _, _, _, _, _, _, _, _, _, _, z⟩ => z

local macro_rules | `(tactic| walk_at "ev") => `(tactic| simp only [bind_S, liftS_S, bindR_ok, bindR_exc, bindR_bad, liftR_ok, liftR_exc, liftR_bad, ret_S, bad_S, raise_S, lift_some_S, lift_none_S, quiet_S, quietR_ok, quietR_exc, quietR_bad, ite_S, fnD_S, objF_S, fldO_S, setB_S, mkO_S, noEx_S, dropS_S, fnX_S, anyA_const, fvD, fvE, putW, initE, evs_nil, evs_cons, eO_S, eVar_S, eC_S, eVarB_S, aNil_S, aCons_S, eTup_S, eLst_S, eBin_S, tBin_S, oCat_S, tAndD_S, tOrD_S, tNotD_S, eAndD_S, eOrD_S, eNotD_S, eNegD_S, tValD_S, eIfD_S, oPart_S, oSl_S, eSl_S, eCall_S, isiO_S, sNil_S, sCons_S, sExpr_S, sRet_S, sRetO_S, sRetV_S, sRetN_S, sIf_S, sBrk_S, sCnt_S, sSet_S, sSetO_S, sFz_S, iL_S, iT_S, iS_S, iR1_S, iR2_S, iR3_S, sFor_S, oLc_S, tYesD_S, onO_S, sApp_S, sExt_S, sSetI_S, eFn_S, oFn_S, eM1_S, oSplit_S, eSlA_S, oListF_S, eTupF_S, eIndex_S, iA_S, sThenFz_S, sUnp_S, eFld_S, eFldD_S, sFldD_S, sFldO_S, sFldK_S, sFldApp_S, eFldPop_S, sFldSetI_S, sFldRot_S, eMt_S, oMt_S, eMk_S, sRaise_S, sTry_S, sTryAs_S, eIsE_S, eFnX_S, iFld_S, kNil_S, eNewL_S, eNewK_S, eRd_S, eGet1_S, eGet2_S, sRPut_S, eRPop_S, sRApp_S, eRPopL_S, sRSetI_S, eK_S, sForR_S, pNil_S, pCons_S, kDisp_S, sPar2_S, sPar3_S, sRem_S, sClr_S, iRv_S, eMaxD_S, oSortP_S, eUp_S, sRClr_S, sRRem_S, iKy_S, eIxF_S, tEqE_S, kCpy_S, oKeysF_S, kCpyK_S, eEqKK_S, oValsK_S, eIxK_S, eNeKK_S, tEqKK_S, tNeKK_S, lk0, ll0, lk1, ll1, lk2, ll2, lk3, ll3, lk4, ll4, lk5, ll5, lk6, ll6, lk7, ll7, lk8, ll8, lk9, ll9, lk10, ll10, lk11, ll11, lk12, ll12, lk13, ll13, lk14, ll14, lk15, ll15, lk16, ll16, lk17, ll17, lk18, ll18, lk19, ll19, lk20, ll20, lk21, ll21, lk22, ll22, lk23, ll23, lk24, ll24, Int.cast_ofNat_Int, Int.ofNat_zero, Int.ofNat_one, lenO_lst, lenO_tupl, lenO_dctl, ixD_l0, ixD_l1, ixD_l2, ixD_l3, ixD_l4, ixD_t0, ixD_t1, ixD_t2, ixD_t3, ixD_t4, ixD_t5, ixD_t6, rawV_obj, rawV_non, rawV_bl, rawV_int, rawV_str, rawV_lst, rawV_tup, rawV_dct, rawV_scr, onL_obj, onK_obj, onF_obj, raw_L, raw_K, raw_F, raw_mk, keyD_str, keyD_int, keyD_non, inD_dct_str, inD_dct_int, inD_dct_non, ninD_dct_str, ninD_dct_non, dgetD_str, dgetD_int, getN_str, getN_int, getN_non, look_S, ofString_inj, String.reduceEq, String.reduceNe, eq_self, List.lookup_nil, isSome_some', Option.getD_some, Option.getD_none, Option.isNone_none, Option.isSome_none, Option.isSome_some, set_set, bName, bTup, bNil, bCons, wipeE, obl, truD, resd_f, resd_o, fzE, addD, subD, mulD, divD, modD, ltD, leD, gtD, geD, isN_1, isN_2, isN_3, isN_4, isN_5, isN_6, isN_7, isN_8, isD_bl, isnD_bl, isD_non, isnD_non, tyN, eqD_str, eqD_int, eqD_bl, neD_str, neD_int, neD_bl, ordO_one, tx_eq_nil, inD_sign, ninD_sign, intO, maxO, minO, List.length_cons, List.length_nil, List.length_map, List.length_append, List.replicate, List.cons_append, List.nil_append, List.append_nil, List.getElem?_cons_zero, List.getElem?_cons_succ, List.set_cons_zero, List.set_cons_succ, Option.map_some, Option.map_none, Option.bind_some, Option.bind_none, if_true, if_false, ite_true, ite_false, ite_self, Nat.sub_self, Nat.zero_add, Nat.reduceAdd, Nat.reduceSub, Nat.reduceLeDiff, Int.reduceEq, Int.reduceNe, Nat.reduceEqDiff, Int.reduceToNat, Int.reduceLT, Int.reduceLE, Int.reduceMod, Int.reduceDiv, Int.reduceMul, Int.reduceAdd, Int.reduceSub, Int.reduceNeg, Nat.reduceLT, reduceIte, Bool.not_true, Bool.not_false, reduceCtorEq, decide_eq_true_eq, decide_eq_false_iff_not, Bool.not_eq_true', Bool.false_eq_true, Bool.true_eq_false, decide_true, decide_false, Bool.and_true, Bool.true_and, Bool.and_false, Bool.false_and, Bool.or_false, Bool.or_true, Bool.true_or, Bool.false_or, true_and, and_true, true_or, or_true, false_or, or_false, false_and, and_false, not_true_eq_false, not_false_eq_true, ne_eq])
local macro_rules | `(tactic| walk_at "ev*") => `(tactic| simp only [bind_S, liftS_S, bindR_ok, bindR_exc, bindR_bad, liftR_ok, liftR_exc, liftR_bad, ret_S, bad_S, raise_S, lift_some_S, lift_none_S, quiet_S, quietR_ok, quietR_exc, quietR_bad, ite_S, fnD_S, objF_S, fldO_S, setB_S, mkO_S, noEx_S, dropS_S, fnX_S, anyA_const, fvD, fvE, putW, initE, evs_nil, evs_cons, eO_S, eVar_S, eC_S, eVarB_S, aNil_S, aCons_S, eTup_S, eLst_S, eBin_S, tBin_S, oCat_S, tAndD_S, tOrD_S, tNotD_S, eAndD_S, eOrD_S, eNotD_S, eNegD_S, tValD_S, eIfD_S, oPart_S, oSl_S, eSl_S, eCall_S, isiO_S, sNil_S, sCons_S, sExpr_S, sRet_S, sRetO_S, sRetV_S, sRetN_S, sIf_S, sBrk_S, sCnt_S, sSet_S, sSetO_S, sFz_S, iL_S, iT_S, iS_S, iR1_S, iR2_S, iR3_S, sFor_S, oLc_S, tYesD_S, onO_S, sApp_S, sExt_S, sSetI_S, eFn_S, oFn_S, eM1_S, oSplit_S, eSlA_S, oListF_S, eTupF_S, eIndex_S, iA_S, sThenFz_S, sUnp_S, eFld_S, eFldD_S, sFldD_S, sFldO_S, sFldK_S, sFldApp_S, eFldPop_S, sFldSetI_S, sFldRot_S, eMt_S, oMt_S, eMk_S, sRaise_S, sTry_S, sTryAs_S, eIsE_S, eFnX_S, iFld_S, kNil_S, eNewL_S, eNewK_S, eRd_S, eGet1_S, eGet2_S, sRPut_S, eRPop_S, sRApp_S, eRPopL_S, sRSetI_S, eK_S, sForR_S, pNil_S, pCons_S, kDisp_S, sPar2_S, sPar3_S, sRem_S, sClr_S, iRv_S, eMaxD_S, oSortP_S, eUp_S, sRClr_S, sRRem_S, iKy_S, eIxF_S, tEqE_S, kCpy_S, oKeysF_S, kCpyK_S, eEqKK_S, oValsK_S, eIxK_S, eNeKK_S, tEqKK_S, tNeKK_S, lk0, ll0, lk1, ll1, lk2, ll2, lk3, ll3, lk4, ll4, lk5, ll5, lk6, ll6, lk7, ll7, lk8, ll8, lk9, ll9, lk10, ll10, lk11, ll11, lk12, ll12, lk13, ll13, lk14, ll14, lk15, ll15, lk16, ll16, lk17, ll17, lk18, ll18, lk19, ll19, lk20, ll20, lk21, ll21, lk22, ll22, lk23, ll23, lk24, ll24, Int.cast_ofNat_Int, Int.ofNat_zero, Int.ofNat_one, lenO_lst, lenO_tupl, lenO_dctl, ixD_l0, ixD_l1, ixD_l2, ixD_l3, ixD_l4, ixD_t0, ixD_t1, ixD_t2, ixD_t3, ixD_t4, ixD_t5, ixD_t6, rawV_obj, rawV_non, rawV_bl, rawV_int, rawV_str, rawV_lst, rawV_tup, rawV_dct, rawV_scr, onL_obj, onK_obj, onF_obj, raw_L, raw_K, raw_F, raw_mk, keyD_str, keyD_int, keyD_non, inD_dct_str, inD_dct_int, inD_dct_non, ninD_dct_str, ninD_dct_non, dgetD_str, dgetD_int, getN_str, getN_int, getN_non, look_S, ofString_inj, String.reduceEq, String.reduceNe, eq_self, List.lookup_nil, isSome_some', Option.getD_some, Option.getD_none, Option.isNone_none, Option.isSome_none, Option.isSome_some, set_set, bName, bTup, bNil, bCons, wipeE, obl, truD, resd_f, resd_o, fzE, addD, subD, mulD, divD, modD, ltD, leD, gtD, geD, isN_1, isN_2, isN_3, isN_4, isN_5, isN_6, isN_7, isN_8, isD_bl, isnD_bl, isD_non, isnD_non, tyN, eqD_str, eqD_int, eqD_bl, neD_str, neD_int, neD_bl, ordO_one, tx_eq_nil, inD_sign, ninD_sign, intO, maxO, minO, List.length_cons, List.length_nil, List.length_map, List.length_append, List.replicate, List.cons_append, List.nil_append, List.append_nil, List.getElem?_cons_zero, List.getElem?_cons_succ, List.set_cons_zero, List.set_cons_succ, Option.map_some, Option.map_none, Option.bind_some, Option.bind_none, if_true, if_false, ite_true, ite_false, ite_self, Nat.sub_self, Nat.zero_add, Nat.reduceAdd, Nat.reduceSub, Nat.reduceLeDiff, Int.reduceEq, Int.reduceNe, Nat.reduceEqDiff, Int.reduceToNat, Int.reduceLT, Int.reduceLE, Int.reduceMod, Int.reduceDiv, Int.reduceMul, Int.reduceAdd, Int.reduceSub, Int.reduceNeg, Nat.reduceLT, reduceIte, Bool.not_true, Bool.not_false, reduceCtorEq, decide_eq_true_eq, decide_eq_false_iff_not, Bool.not_eq_true', Bool.false_eq_true, Bool.true_eq_false, decide_true, decide_false, Bool.and_true, Bool.true_and, Bool.and_false, Bool.false_and, Bool.or_false, Bool.or_true, Bool.true_or, Bool.false_or, true_and, and_true, true_or, or_true, false_or, or_false, false_and, and_false, not_true_eq_false, not_false_eq_true, ne_eq, *])
local macro_rules | `(tactic| walk_at "evl") => `(tactic| simp only [bind_S, liftS_S, bindR_ok, bindR_exc, bindR_bad, liftR_ok, liftR_exc, liftR_bad, ret_S, bad_S, raise_S, lift_some_S, lift_none_S, quiet_S, quietR_ok, quietR_exc, quietR_bad, ite_S, fnD_S, objF_S, fldO_S, setB_S, mkO_S, noEx_S, dropS_S, fnX_S, anyA_const, fvD, fvE, putW, initE, evs_nil, evs_cons, eO_S, eVar_S, eC_S, eVarB_S, aNil_S, aCons_S, eTup_S, eLst_S, eBin_S, tBin_S, oCat_S, tAndD_S, tOrD_S, tNotD_S, eAndD_S, eOrD_S, eNotD_S, eNegD_S, tValD_S, eIfD_S, oPart_S, oSl_S, eSl_S, eCall_S, isiO_S, sNil_S, sCons_S, sExpr_S, sRet_S, sRetO_S, sRetV_S, sRetN_S, sIf_S, sBrk_S, sCnt_S, sSet_S, sSetO_S, sFz_S, iL_S, iT_S, iS_S, iR1_S, iR2_S, iR3_S, sFor_S, oLc_S, tYesD_S, onO_S, sApp_S, sExt_S, sSetI_S, eFn_S, oFn_S, eM1_S, oSplit_S, eSlA_S, oListF_S, eTupF_S, eIndex_S, iA_S, sThenFz_S, sUnp_S, eFld_S, eFldD_S, sFldD_S, sFldO_S, sFldK_S, sFldApp_S, eFldPop_S, sFldSetI_S, sFldRot_S, eMt_S, oMt_S, eMk_S, sRaise_S, sTry_S, sTryAs_S, eIsE_S, eFnX_S, iFld_S, kNil_S, eNewL_S, eNewK_S, eRd_S, eGet1_S, eGet2_S, sRPut_S, eRPop_S, sRApp_S, eRPopL_S, sRSetI_S, eK_S, sForR_S, pNil_S, pCons_S, kDisp_S, sPar2_S, sPar3_S, sRem_S, sClr_S, iRv_S, eMaxD_S, oSortP_S, eUp_S, sRClr_S, sRRem_S, iKy_S, eIxF_S, tEqE_S, kCpy_S, oKeysF_S, kCpyK_S, eEqKK_S, oValsK_S, eIxK_S, eNeKK_S, tEqKK_S, tNeKK_S, lk0, ll0, lk1, ll1, lk2, ll2, lk3, ll3, lk4, ll4, lk5, ll5, lk6, ll6, lk7, ll7, lk8, ll8, lk9, ll9, lk10, ll10, lk11, ll11, lk12, ll12, lk13, ll13, lk14, ll14, lk15, ll15, lk16, ll16, lk17, ll17, lk18, ll18, lk19, ll19, lk20, ll20, lk21, ll21, lk22, ll22, lk23, ll23, lk24, ll24, Int.cast_ofNat_Int, Int.ofNat_zero, Int.ofNat_one, lenO_lst, lenO_tupl, lenO_dctl, ixD_l0, ixD_l1, ixD_l2, ixD_l3, ixD_l4, ixD_t0, ixD_t1, ixD_t2, ixD_t3, ixD_t4, ixD_t5, ixD_t6, rawV_obj, rawV_non, rawV_bl, rawV_int, rawV_str, rawV_lst, rawV_tup, rawV_dct, rawV_scr, onL_obj, onK_obj, onF_obj, raw_L, raw_K, raw_F, raw_mk, keyD_str, keyD_int, keyD_non, inD_dct_str, inD_dct_int, inD_dct_non, ninD_dct_str, ninD_dct_non, dgetD_str, dgetD_int, getN_str, getN_int, getN_non, look_S, ofString_inj, String.reduceEq, String.reduceNe, eq_self, List.lookup_nil, isSome_some', Option.getD_some, Option.getD_none, Option.isNone_none, Option.isSome_none, Option.isSome_some, set_set, bName, bTup, bNil, bCons, wipeE, obl, truD, resd_f, resd_o, fzE, addD, subD, mulD, divD, modD, ltD, leD, gtD, geD, isN_1, isN_2, isN_3, isN_4, isN_5, isN_6, isN_7, isN_8, isD_bl, isnD_bl, isD_non, isnD_non, tyN, eqD_str, eqD_int, eqD_bl, neD_str, neD_int, neD_bl, ordO_one, tx_eq_nil, inD_sign, ninD_sign, intO, maxO, minO, List.length_cons, List.length_nil, List.length_map, List.length_append, List.replicate, List.cons_append, List.nil_append, List.append_nil, List.getElem?_cons_zero, List.getElem?_cons_succ, List.set_cons_zero, List.set_cons_succ, Option.map_some, Option.map_none, Option.bind_some, Option.bind_none, if_true, if_false, ite_true, ite_false, ite_self, Nat.sub_self, Nat.zero_add, Nat.reduceAdd, Nat.reduceSub, Nat.reduceLeDiff, Int.reduceEq, Int.reduceNe, Nat.reduceEqDiff, Int.reduceToNat, Int.reduceLT, Int.reduceLE, Int.reduceMod, Int.reduceDiv, Int.reduceMul, Int.reduceAdd, Int.reduceSub, Int.reduceNeg, Nat.reduceLT, reduceIte, Bool.not_true, Bool.not_false, reduceCtorEq, decide_eq_true_eq, decide_eq_false_iff_not, Bool.not_eq_true', Bool.false_eq_true, Bool.true_eq_false, decide_true, decide_false, Bool.and_true, Bool.true_and, Bool.and_false, Bool.false_and, Bool.or_false, Bool.or_true, Bool.true_or, Bool.false_or, true_and, and_true, true_or, or_true, false_or, or_false, false_and, and_false, not_true_eq_false, not_false_eq_true, ne_eq, forD_cons_S, forD_nil_S, lcD_cons_S, lcD_nil_S, *])
local macro_rules | `(tactic| walk_at "go") => `(tactic| simp only [dn_law_taken_s1_S, dn_law_taken_s2_S, dn_law_taken_s3_S, dn_law_taken_s4_S, dn_law_taken_s5_S, dn_law_taken_s6_S, dn_law_taken_s7_S, dn_law_taken_s8_S, dn_law_taken_b9_S, dn_law_taken_s10_S, dn_law_taken_S, dn_law_built_s1_S, dn_law_built_s2_S, dn_law_built_s3_S, dn_law_built_s4_S, dn_law_built_s5_S, dn_law_built_s6_S, dn_law_built_b7_S, dn_law_built_s8_S, dn_law_built_S, dn_law_lent_s1_S, dn_law_lent_s2_S, dn_law_lent_b3_S, dn_law_lent_s4_S, dn_law_lent_s5_S, dn_law_lent_s6_S, dn_law_lent_S, dn_law_heir_s1_S, dn_law_heir_b2_S, dn_law_heir_s3_S, dn_law_heir_s4_S, dn_law_heir_S, dn_law_stays_b1_S, dn_law_stays_s2_S, dn_law_stays_s3_S, dn_law_stays_b4_S, dn_law_stays_s5_S, dn_law_stays_b6_S, dn_law_stays_s7_S, dn_law_stays_S, dn_law_s1_S, dn_law_s2_S, dn_law_s3_S, dn_law_s4_S, dn_law_s5_S, dn_law_s6_S, dn_law_s7_S, dn_law_s8_S, dn_law_s9_S, dn_law_s10_S, dn_law_s11_S, dn_law_b12_S, dn_law_s13_S, dn_law_b14_S, dn_law_s15_S, dn_law_s16_S, dn_law_s17_S, dn_law_s18_S, dn_law_b19_S, dn_law_s20_S, dn_law_s21_S, dn_law_s22_S, dn_law_b23_S, dn_law_s24_S, dn_law_b25_S, dn_law_s26_S, dn_law_b27_S, dn_law_s28_S, dn_law_s29_S, dn_law_s30_S, dn_law_s31_S, dn_law_S, bind_S, liftS_S, bindR_ok, bindR_exc, bindR_bad, liftR_ok, liftR_exc, liftR_bad, ret_S, bad_S, raise_S, lift_some_S, lift_none_S, quiet_S, quietR_ok, quietR_exc, quietR_bad, ite_S, fnD_S, objF_S, fldO_S, setB_S, mkO_S, noEx_S, dropS_S, fnX_S, anyA_const, fvD, fvE, putW, initE, evs_nil, evs_cons, eO_S, eVar_S, eC_S, eVarB_S, aNil_S, aCons_S, eTup_S, eLst_S, eBin_S, tBin_S, oCat_S, tAndD_S, tOrD_S, tNotD_S, eAndD_S, eOrD_S, eNotD_S, eNegD_S, tValD_S, eIfD_S, oPart_S, oSl_S, eSl_S, eCall_S, isiO_S, sNil_S, sCons_S, sExpr_S, sRet_S, sRetO_S, sRetV_S, sRetN_S, sIf_S, sBrk_S, sCnt_S, sSet_S, sSetO_S, sFz_S, iL_S, iT_S, iS_S, iR1_S, iR2_S, iR3_S, sFor_S, oLc_S, tYesD_S, onO_S, sApp_S, sExt_S, sSetI_S, eFn_S, oFn_S, eM1_S, oSplit_S, eSlA_S, oListF_S, eTupF_S, eIndex_S, iA_S, sThenFz_S, sUnp_S, eFld_S, eFldD_S, sFldD_S, sFldO_S, sFldK_S, sFldApp_S, eFldPop_S, sFldSetI_S, sFldRot_S, eMt_S, oMt_S, eMk_S, sRaise_S, sTry_S, sTryAs_S, eIsE_S, eFnX_S, iFld_S, kNil_S, eNewL_S, eNewK_S, eRd_S, eGet1_S, eGet2_S, sRPut_S, eRPop_S, sRApp_S, eRPopL_S, sRSetI_S, eK_S, sForR_S, pNil_S, pCons_S, kDisp_S, sPar2_S, sPar3_S, sRem_S, sClr_S, iRv_S, eMaxD_S, oSortP_S, eUp_S, sRClr_S, sRRem_S, iKy_S, eIxF_S, tEqE_S, kCpy_S, oKeysF_S, kCpyK_S, eEqKK_S, oValsK_S, eIxK_S, eNeKK_S, tEqKK_S, tNeKK_S, lk0, ll0, lk1, ll1, lk2, ll2, lk3, ll3, lk4, ll4, lk5, ll5, lk6, ll6, lk7, ll7, lk8, ll8, lk9, ll9, lk10, ll10, lk11, ll11, lk12, ll12, lk13, ll13, lk14, ll14, lk15, ll15, lk16, ll16, lk17, ll17, lk18, ll18, lk19, ll19, lk20, ll20, lk21, ll21, lk22, ll22, lk23, ll23, lk24, ll24, Int.cast_ofNat_Int, Int.ofNat_zero, Int.ofNat_one, lenO_lst, lenO_tupl, lenO_dctl, ixD_l0, ixD_l1, ixD_l2, ixD_l3, ixD_l4, ixD_t0, ixD_t1, ixD_t2, ixD_t3, ixD_t4, ixD_t5, ixD_t6, rawV_obj, rawV_non, rawV_bl, rawV_int, rawV_str, rawV_lst, rawV_tup, rawV_dct, rawV_scr, onL_obj, onK_obj, onF_obj, raw_L, raw_K, raw_F, raw_mk, keyD_str, keyD_int, keyD_non, inD_dct_str, inD_dct_int, inD_dct_non, ninD_dct_str, ninD_dct_non, dgetD_str, dgetD_int, getN_str, getN_int, getN_non, look_S, ofString_inj, String.reduceEq, String.reduceNe, eq_self, List.lookup_nil, isSome_some', Option.getD_some, Option.getD_none, Option.isNone_none, Option.isSome_none, Option.isSome_some, set_set, bName, bTup, bNil, bCons, wipeE, obl, truD, resd_f, resd_o, fzE, addD, subD, mulD, divD, modD, ltD, leD, gtD, geD, isN_1, isN_2, isN_3, isN_4, isN_5, isN_6, isN_7, isN_8, isD_bl, isnD_bl, isD_non, isnD_non, tyN, eqD_str, eqD_int, eqD_bl, neD_str, neD_int, neD_bl, ordO_one, tx_eq_nil, inD_sign, ninD_sign, intO, maxO, minO, List.length_cons, List.length_nil, List.length_map, List.length_append, List.replicate, List.cons_append, List.nil_append, List.append_nil, List.getElem?_cons_zero, List.getElem?_cons_succ, List.set_cons_zero, List.set_cons_succ, Option.map_some, Option.map_none, Option.bind_some, Option.bind_none, if_true, if_false, ite_true, ite_false, ite_self, Nat.sub_self, Nat.zero_add, Nat.reduceAdd, Nat.reduceSub, Nat.reduceLeDiff, Int.reduceEq, Int.reduceNe, Nat.reduceEqDiff, Int.reduceToNat, Int.reduceLT, Int.reduceLE, Int.reduceMod, Int.reduceDiv, Int.reduceMul, Int.reduceAdd, Int.reduceSub, Int.reduceNeg, Nat.reduceLT, reduceIte, Bool.not_true, Bool.not_false, reduceCtorEq, decide_eq_true_eq, decide_eq_false_iff_not, Bool.not_eq_true', Bool.false_eq_true, Bool.true_eq_false, decide_true, decide_false, Bool.and_true, Bool.true_and, Bool.and_false, Bool.false_and, Bool.or_false, Bool.or_true, Bool.true_or, Bool.false_or, true_and, and_true, true_or, or_true, false_or, or_false, false_and, and_false, not_true_eq_false, not_false_eq_true, ne_eq])
local macro_rules | `(tactic| walk_at "go*") => `(tactic| simp only [dn_law_taken_s1_S, dn_law_taken_s2_S, dn_law_taken_s3_S, dn_law_taken_s4_S, dn_law_taken_s5_S, dn_law_taken_s6_S, dn_law_taken_s7_S, dn_law_taken_s8_S, dn_law_taken_b9_S, dn_law_taken_s10_S, dn_law_taken_S, dn_law_built_s1_S, dn_law_built_s2_S, dn_law_built_s3_S, dn_law_built_s4_S, dn_law_built_s5_S, dn_law_built_s6_S, dn_law_built_b7_S, dn_law_built_s8_S, dn_law_built_S, dn_law_lent_s1_S, dn_law_lent_s2_S, dn_law_lent_b3_S, dn_law_lent_s4_S, dn_law_lent_s5_S, dn_law_lent_s6_S, dn_law_lent_S, dn_law_heir_s1_S, dn_law_heir_b2_S, dn_law_heir_s3_S, dn_law_heir_s4_S, dn_law_heir_S, dn_law_stays_b1_S, dn_law_stays_s2_S, dn_law_stays_s3_S, dn_law_stays_b4_S, dn_law_stays_s5_S, dn_law_stays_b6_S, dn_law_stays_s7_S, dn_law_stays_S, dn_law_s1_S, dn_law_s2_S, dn_law_s3_S, dn_law_s4_S, dn_law_s5_S, dn_law_s6_S, dn_law_s7_S, dn_law_s8_S, dn_law_s9_S, dn_law_s10_S, dn_law_s11_S, dn_law_b12_S, dn_law_s13_S, dn_law_b14_S, dn_law_s15_S, dn_law_s16_S, dn_law_s17_S, dn_law_s18_S, dn_law_b19_S, dn_law_s20_S, dn_law_s21_S, dn_law_s22_S, dn_law_b23_S, dn_law_s24_S, dn_law_b25_S, dn_law_s26_S, dn_law_b27_S, dn_law_s28_S, dn_law_s29_S, dn_law_s30_S, dn_law_s31_S, dn_law_S, bind_S, liftS_S, bindR_ok, bindR_exc, bindR_bad, liftR_ok, liftR_exc, liftR_bad, ret_S, bad_S, raise_S, lift_some_S, lift_none_S, quiet_S, quietR_ok, quietR_exc, quietR_bad, ite_S, fnD_S, objF_S, fldO_S, setB_S, mkO_S, noEx_S, dropS_S, fnX_S, anyA_const, fvD, fvE, putW, initE, evs_nil, evs_cons, eO_S, eVar_S, eC_S, eVarB_S, aNil_S, aCons_S, eTup_S, eLst_S, eBin_S, tBin_S, oCat_S, tAndD_S, tOrD_S, tNotD_S, eAndD_S, eOrD_S, eNotD_S, eNegD_S, tValD_S, eIfD_S, oPart_S, oSl_S, eSl_S, eCall_S, isiO_S, sNil_S, sCons_S, sExpr_S, sRet_S, sRetO_S, sRetV_S, sRetN_S, sIf_S, sBrk_S, sCnt_S, sSet_S, sSetO_S, sFz_S, iL_S, iT_S, iS_S, iR1_S, iR2_S, iR3_S, sFor_S, oLc_S, tYesD_S, onO_S, sApp_S, sExt_S, sSetI_S, eFn_S, oFn_S, eM1_S, oSplit_S, eSlA_S, oListF_S, eTupF_S, eIndex_S, iA_S, sThenFz_S, sUnp_S, eFld_S, eFldD_S, sFldD_S, sFldO_S, sFldK_S, sFldApp_S, eFldPop_S, sFldSetI_S, sFldRot_S, eMt_S, oMt_S, eMk_S, sRaise_S, sTry_S, sTryAs_S, eIsE_S, eFnX_S, iFld_S, kNil_S, eNewL_S, eNewK_S, eRd_S, eGet1_S, eGet2_S, sRPut_S, eRPop_S, sRApp_S, eRPopL_S, sRSetI_S, eK_S, sForR_S, pNil_S, pCons_S, kDisp_S, sPar2_S, sPar3_S, sRem_S, sClr_S, iRv_S, eMaxD_S, oSortP_S, eUp_S, sRClr_S, sRRem_S, iKy_S, eIxF_S, tEqE_S, kCpy_S, oKeysF_S, kCpyK_S, eEqKK_S, oValsK_S, eIxK_S, eNeKK_S, tEqKK_S, tNeKK_S, lk0, ll0, lk1, ll1, lk2, ll2, lk3, ll3, lk4, ll4, lk5, ll5, lk6, ll6, lk7, ll7, lk8, ll8, lk9, ll9, lk10, ll10, lk11, ll11, lk12, ll12, lk13, ll13, lk14, ll14, lk15, ll15, lk16, ll16, lk17, ll17, lk18, ll18, lk19, ll19, lk20, ll20, lk21, ll21, lk22, ll22, lk23, ll23, lk24, ll24, Int.cast_ofNat_Int, Int.ofNat_zero, Int.ofNat_one, lenO_lst, lenO_tupl, lenO_dctl, ixD_l0, ixD_l1, ixD_l2, ixD_l3, ixD_l4, ixD_t0, ixD_t1, ixD_t2, ixD_t3, ixD_t4, ixD_t5, ixD_t6, rawV_obj, rawV_non, rawV_bl, rawV_int, rawV_str, rawV_lst, rawV_tup, rawV_dct, rawV_scr, onL_obj, onK_obj, onF_obj, raw_L, raw_K, raw_F, raw_mk, keyD_str, keyD_int, keyD_non, inD_dct_str, inD_dct_int, inD_dct_non, ninD_dct_str, ninD_dct_non, dgetD_str, dgetD_int, getN_str, getN_int, getN_non, look_S, ofString_inj, String.reduceEq, String.reduceNe, eq_self, List.lookup_nil, isSome_some', Option.getD_some, Option.getD_none, Option.isNone_none, Option.isSome_none, Option.isSome_some, set_set, bName, bTup, bNil, bCons, wipeE, obl, truD, resd_f, resd_o, fzE, addD, subD, mulD, divD, modD, ltD, leD, gtD, geD, isN_1, isN_2, isN_3, isN_4, isN_5, isN_6, isN_7, isN_8, isD_bl, isnD_bl, isD_non, isnD_non, tyN, eqD_str, eqD_int, eqD_bl, neD_str, neD_int, neD_bl, ordO_one, tx_eq_nil, inD_sign, ninD_sign, intO, maxO, minO, List.length_cons, List.length_nil, List.length_map, List.length_append, List.replicate, List.cons_append, List.nil_append, List.append_nil, List.getElem?_cons_zero, List.getElem?_cons_succ, List.set_cons_zero, List.set_cons_succ, Option.map_some, Option.map_none, Option.bind_some, Option.bind_none, if_true, if_false, ite_true, ite_false, ite_self, Nat.sub_self, Nat.zero_add, Nat.reduceAdd, Nat.reduceSub, Nat.reduceLeDiff, Int.reduceEq, Int.reduceNe, Nat.reduceEqDiff, Int.reduceToNat, Int.reduceLT, Int.reduceLE, Int.reduceMod, Int.reduceDiv, Int.reduceMul, Int.reduceAdd, Int.reduceSub, Int.reduceNeg, Nat.reduceLT, reduceIte, Bool.not_true, Bool.not_false, reduceCtorEq, decide_eq_true_eq, decide_eq_false_iff_not, Bool.not_eq_true', Bool.false_eq_true, Bool.true_eq_false, decide_true, decide_false, Bool.and_true, Bool.true_and, Bool.and_false, Bool.false_and, Bool.or_false, Bool.or_true, Bool.true_or, Bool.false_or, true_and, and_true, true_or, or_true, false_or, or_false, false_and, and_false, not_true_eq_false, not_false_eq_true, ne_eq, *])

/-! ### drawn texts, cells -/
theorem foldl_one (c : Nat) : ∀ (m : Nat) (acc : Array Nat), (List.replicate m #[c]).foldl (· ++ ·) acc = acc ++ (List.replicate m c).toArray
  | 0, acc => by simp
  | m + 1, acc => by
    rw [List.replicate_succ, List.foldl_cons, foldl_one c m, List.replicate_succ]
    apply Array.ext'
    simp
theorem mul_one (c : Nat) (n : Int) : Txt.mul ⟨#[c]⟩ n = tx (List.replicate n.toNat c) := by
  unfold Txt.mul
  by_cases h : n < 1
  · rw [if_pos h, show n.toNat = 0 by omega]
    rfl
  · rw [if_neg h]
    split
    · rename_i h2
      have : n = 1 := by
        rw [Bool.or_eq_true] at h2
        rcases h2 with h2 | h2
        · simpa using h2
        · simp [Str.length] at h2
      subst this
      rfl
    · show (⟨_⟩ : Str) = _
      rw [foldl_one]
      simp
def cellAt (ns : List Int) (k : Nat) : Int := ns.getD k 0
theorem cell_ok (ns : List Int) (k : Nat) (hl : ns.length ≤ 63) (S : Store) : fn_law_cell_at [.scr ns, .int k] S = .ok (.f (.int (cellAt ns k))) S := by
  unfold fn_law_cell_at dn_law_cell_at
  have e1 : lenO [.scr ns] = some (.int ns.length) := rfl
  walk_at "ev*"
  unfold cellAt
  by_cases h : (k : Int) < ns.length
  · have e2 : ixD (.scr ns) (.int (k : Int)) = some (.int ns[k]) := ix_scr (by omega) (by simp)
    rw [List.getD_eq_getElem?_getD, List.getElem?_eq_getElem (by omega)]
    walk_at "ev*"
  · rw [List.getD_eq_getElem?_getD, List.getElem?_eq_none (by omega)]
    walk_at "ev*"
theorem map_ex {α : Type} {f : α → D} {P : α → Prop} : ∀ {ds : List D}, (∀ d ∈ ds, ∃ s, d = f s ∧ P s) → ∃ ss : List α, ds = ss.map f ∧ ∀ s ∈ ss, P s
  | [], _ => ⟨[], rfl, fun _ h => by cases h⟩
  | d :: ds, h => by
    obtain ⟨s, h1, h2⟩ := h d List.mem_cons_self
    obtain ⟨ss, h3, h4⟩ := map_ex fun e he => h e (List.mem_cons_of_mem _ he)
    refine ⟨s :: ss, by rw [h1, h3]; rfl, fun x hx => ?_⟩
    rcases List.mem_cons.mp hx with rfl | hx
    · exact h2
    · exact h4 x hx
theorem names_at {names : List Str} {count : Nat} (hn : names.length = count) (hc : 0 < count) (c : Int) : ∃ x ∈ names, ixD (.lst (names.map .str)) (.int (c % (count : Int))) = some (.str x) := by
  have h0 : 0 ≤ c % (count : Int) := Int.emod_nonneg _ (by omega)
  have h1 : c % (count : Int) < count := Int.emod_lt_of_pos _ (by omega)
  obtain ⟨j, hj⟩ : ∃ j : Nat, c % (count : Int) = j := ⟨(c % (count : Int)).toNat, by omega⟩
  rw [hj] at h1 ⊢
  have hj2 : j < names.length := by omega
  exact ⟨names[j], List.getElem_mem hj2, ix_map (List.getElem?_eq_getElem hj2)⟩

/-! ### locks -/
structure LK where
  H : Str → Option Str
  L : Str → Option (List Str)
  O : Str → Option (List Str)
  W : Str → Option Str
def LK.new : LK := ⟨fun _ => none, fun _ => none, fun _ => none, fun _ => none⟩
def sD : Option Str → D
  | none => .non
  | some s => .str s
def vS (o : Option Str) : Option D := o.map .str
def vL (o : Option (List Str)) : Option D := o.map fun xs => .lst (xs.map .str)
theorem vS_getD (o : Option Str) : (vS o).getD .non = sD o := by cases o <;> rfl
theorem vS_isSome (o : Option Str) : (vS o).isSome = o.isSome := by cases o <;> rfl
theorem vL_getD (o : Option (List Str)) : (vL o).getD (.lst []) = .lst ((o.getD []).map .str) := by cases o <;> rfl
theorem neD_sD (o : Option Str) : neD (sD o) (sD o) = some false := by
  cases o with
  | none => rfl
  | some s => show neD (.str s) (.str s) = _; rw [neD_str, decide_eq_true rfl]; rfl
def keyT (kv : Key × D) : Str := match kv.1 with
  | .inr s => s
  | .inl _ => ""
theorem getK_of {kvs : List (Key × D)} {kv : Key × D} (h : kv ∈ kvs) : (getK kvs kv.1).isSome = true := by
  rw [← getK_any, List.any_eq_true]
  exact ⟨kv, h, by simp⟩
theorem keyT_get {kvs : List (Key × D)} (hk : ∀ kv ∈ kvs, ∃ s, kv.1 = .inr s) {y : Str} (h : y ∈ kvs.map keyT) : (getK kvs (.inr y)).isSome = true := by
  obtain ⟨kv, h1, h2⟩ := List.mem_map.mp h
  obtain ⟨s, hs⟩ := hk kv h1
  have := getK_of h1
  rw [hs] at this
  have : keyT kv = s := by unfold keyT; rw [hs]
  rw [← h2, this]
  assumption
theorem putD_keys {kvs : List (Key × D)} (n : Str) (d : D) : ((getK kvs (.inr n)).isSome = true ∧ (putD kvs (.inr n) d).map keyT = kvs.map keyT) ∨ (getK kvs (.inr n) = none ∧ putD kvs (.inr n) d = kvs ++ [(.inr n, d)]) := by
  unfold putD
  rw [getK_any]
  cases e : getK kvs (.inr n) with
  | some v =>
    refine .inl ⟨rfl, ?_⟩
    rw [if_pos (show (some v).isSome = true from rfl), List.map_map]
    refine List.map_congr_left fun kv _ => ?_
    show keyT (if kv.1 = .inr n then (kv.1, d) else kv) = keyT kv
    split <;> rfl
  | none =>
    refine .inr ⟨rfl, ?_⟩
    rw [if_neg (by simp)]
/-- keys are texts, each once -/
structure KsT (kvs : List (Key × D)) : Prop where
  k : ∀ kv ∈ kvs, ∃ s, kv.1 = .inr s
  u : (kvs.map keyT).Nodup
theorem KsT.nil : KsT [] := ⟨(fun _ h => by cases h), List.nodup_nil⟩
theorem KsT.put {kvs : List (Key × D)} (r : KsT kvs) (n : Str) (d : D) : KsT (putD kvs (.inr n) d) := by
  constructor
  · intro kv hkv
    unfold putD at hkv
    split at hkv
    · obtain ⟨kv', h1, h2⟩ := List.mem_map.mp hkv
      obtain ⟨s, hs⟩ := r.k kv' h1
      by_cases c : kv'.1 = .inr n
      · rw [if_pos c] at h2; rw [← h2]; exact ⟨s, hs⟩
      · rw [if_neg c] at h2; rw [← h2]; exact ⟨s, hs⟩
    · rcases List.mem_append.mp hkv with hk | hk
      · exact r.k kv hk
      · simp only [List.mem_cons, List.not_mem_nil, or_false] at hk
        rw [hk]; exact ⟨n, rfl⟩
  · rcases putD_keys (kvs := kvs) n d with ⟨_, h⟩ | ⟨h1, h⟩
    · rw [h]; exact r.u
    · rw [h, List.map_append, List.nodup_append]
      refine ⟨r.u, by simp, fun x hx y hy e => ?_⟩
      simp only [List.map_cons, List.map_nil, List.mem_cons, List.not_mem_nil, or_false] at hy
      have hy : y = n := hy
      subst hy
      subst e
      have := keyT_get r.k hx
      rw [h1] at this; cases this
theorem KsT.drop {kvs : List (Key × D)} (r : KsT kvs) (k : Key) : KsT (dropD kvs k) :=
  ⟨fun kv h => r.k kv (List.mem_filter.mp h).1, r.u.sublist (List.filter_sublist.map _)⟩
theorem KsT.get {kvs : List (Key × D)} (r : KsT kvs) : ∀ kv ∈ kvs, getK kvs kv.1 = some kv.2 := by
  have key : ∀ (l : List (Key × D)), (l.map keyT).Nodup → ∀ kv ∈ l, getK l kv.1 = some kv.2 := by
    intro l
    induction l with
    | nil => intro _ kv h; cases h
    | cons p l ih =>
      intro hu kv h
      rw [List.map_cons, List.nodup_cons] at hu
      obtain ⟨k0, v0⟩ := p
      rw [getK_cons]
      rcases List.mem_cons.mp h with rfl | h
      · rw [if_pos rfl]
      · have ne : ¬ k0 = kv.1 := fun e => by
          apply hu.1
          refine List.mem_map.mpr ⟨kv, h, ?_⟩
          show keyT kv = keyT (k0, v0)
          unfold keyT
          rw [← e]
        rw [if_neg ne]
        exact ih hu.2 kv h
  exact key kvs r.u
/-- a dict of texts' keys -/
def Tb (S : Store) (i : Nat) (f : Str → Option D) (N : Nat) : Prop := ∃ kvs, S[i]? = some (rK kvs) ∧ (∀ n, getK kvs (.inr n) = f n) ∧ kvs.length ≤ N ∧ KsT kvs
theorem Tb.mono {S S' : Store} {i : Nat} {f : Str → Option D} {N N' : Nat} (t : Tb S i f N) (h : S'[i]? = S[i]?) (hN : N ≤ N') : Tb S' i f N' := by
  obtain ⟨kvs, h1, h2, h3, h4⟩ := t
  exact ⟨kvs, by rw [h]; exact h1, h2, by omega, h4⟩
structure Tabs (S : Store) (h l o w : Nat) (A : LK) (N : Nat) : Prop where
  th : Tb S h (fun n => vS (A.H n)) N
  tl : Tb S l (fun n => vL (A.L n)) N
  to : Tb S o (fun n => vL (A.O n)) N
  tw : Tb S w (fun n => vS (A.W n)) N
  ne : h ≠ l ∧ h ≠ o ∧ h ≠ w ∧ l ≠ o ∧ l ≠ w ∧ o ≠ w
/-- nothing else is changed -/
structure Fr (S S' : Store) (h l o w : Nat) : Prop where
  len : S'.length = S.length
  eq : ∀ j, j ≠ h → j ≠ l → j ≠ o → j ≠ w → S'[j]? = S[j]?
theorem Fr.refl (S : Store) (h l o w : Nat) : Fr S S h l o w := ⟨rfl, fun _ _ _ _ _ => rfl⟩
theorem Fr.trans {S S1 S2 : Store} {h l o w : Nat} (a : Fr S S1 h l o w) (b : Fr S1 S2 h l o w) : Fr S S2 h l o w := ⟨b.len.trans a.len, fun j h1 h2 h3 h4 => (b.eq j h1 h2 h3 h4).trans (a.eq j h1 h2 h3 h4)⟩
theorem Tabs.mono {S S' : Store} {h l o w : Nat} {A : LK} {N N' : Nat} (t : Tabs S h l o w A N) (k : ∀ j, j = h ∨ j = l ∨ j = o ∨ j = w → S'[j]? = S[j]?) (hN : N ≤ N') : Tabs S' h l o w A N' :=
  ⟨t.th.mono (k _ (.inl rfl)) hN, t.tl.mono (k _ (.inr (.inl rfl))) hN, t.to.mono (k _ (.inr (.inr (.inl rfl)))) hN, t.tw.mono (k _ (.inr (.inr (.inr rfl)))) hN, t.ne⟩
def upF {α : Type} (f : Str → α) (n : Str) (a : α) : Str → α := fun m => if m = n then a else f m
theorem Tb.put {S : Store} {i : Nat} {f : Str → Option D} {N : Nat} {kvs : List (Key × D)} (h1 : S[i]? = some (rK kvs)) (h2 : ∀ n, getK kvs (.inr n) = f n) (h3 : kvs.length ≤ N) (h3k : KsT kvs) (n : Str) (d : D) : Tb (S.set i (rK (putD kvs (.inr n) d))) i (upF f n (some d)) (N + 1) :=
  ⟨_, set_get h1, fun m => by
    rw [getK_put]
    unfold upF
    by_cases c : m = n
    · subst c; rw [if_pos rfl, if_pos rfl]
    · rw [if_neg (by simpa using c), if_neg c, h2], by have := length_putD kvs (.inr n) d; omega, h3k.put n d⟩
theorem Tb.drop {S : Store} {i : Nat} {f : Str → Option D} {N : Nat} {kvs : List (Key × D)} (h1 : S[i]? = some (rK kvs)) (h2 : ∀ n, getK kvs (.inr n) = f n) (h3 : kvs.length ≤ N) (h3k : KsT kvs) (n : Str) : Tb (S.set i (rK (dropD kvs (.inr n)))) i (upF f n none) N :=
  ⟨_, set_get h1, fun m => by
    rw [getK_drop]
    unfold upF
    by_cases c : m = n
    · subst c; rw [if_pos rfl, if_pos rfl]
    · rw [if_neg (by simpa using c), if_neg c, h2], by have := drop_len kvs (.inr n); omega, h3k.drop _⟩
theorem Tb.eq {S : Store} {i : Nat} {f f' : Str → Option D} {N : Nat} (t : Tb S i f N) (e : ∀ n, f n = f' n) : Tb S i f' N := by
  rw [show f = f' from funext e] at t; exact t
def locksOb (h l o w : Nat) : Ob := ⟨"Locks", [("holders", .f (.obj h)), ("lines", .f (.obj l)), ("owns", .f (.obj o)), ("wants", .f (.obj w))]⟩
structure InvL (S : Store) (b h l o w : Nat) (A : LK) (N : Nat) : Prop where
  ob : S[b]? = some (locksOb h l o w)
  T : Tabs S h l o w A N
theorem InvL.apart {S : Store} {b h l o w : Nat} {A : LK} {N : Nat} (i : InvL S b h l o w A N) : b ≠ h ∧ b ≠ l ∧ b ≠ o ∧ b ≠ w := by
  obtain ⟨_, h1, -⟩ := i.T.th
  obtain ⟨_, h2, -⟩ := i.T.tl
  obtain ⟨_, h3, -⟩ := i.T.to
  obtain ⟨_, h4, -⟩ := i.T.tw
  exact ⟨(two_at h1 i.ob (rK_ob (by decide))).symm, (two_at h2 i.ob (rK_ob (by decide))).symm, (two_at h3 i.ob (rK_ob (by decide))).symm, (two_at h4 i.ob (rK_ob (by decide))).symm⟩
theorem InvL.mono {S S' : Store} {b h l o w : Nat} {A : LK} {N N' : Nat} (i : InvL S b h l o w A N) (k : ∀ j, j = b ∨ j = h ∨ j = l ∨ j = o ∨ j = w → S'[j]? = S[j]?) (hN : N ≤ N') : InvL S' b h l o w A N' :=
  ⟨by rw [k _ (.inl rfl)]; exact i.ob, i.T.mono (fun j hj => k j (.inr hj)) hN⟩
/-- a free lock is got -/
def LK.get (A : LK) (n k : Str) : LK := { A with H := upF A.H k (some n), O := upF A.O n (some ((A.O n).getD [] ++ [k])) }
section
variable {S : Store} {b h l o w : Nat} {A : LK} {N : Nat} (i : InvL S b h l o w A N)
include i
theorem holder_ok (k : Str) : fn_Locks_holder [.obj b, .str k] S = .ok (.f (sD (A.H k))) S := by
  obtain ⟨kvs, h1, h2, -⟩ := i.T.th
  have h0 := i.ob
  have Lc : (locksOb h l o w).cls = Str.ofString "Locks" := rfl
  have Lf : (locksOb h l o w).fs = [(Str.ofString "holders", FV.f (.obj h)), (Str.ofString "lines", FV.f (.obj l)), (Str.ofString "owns", FV.f (.obj o)), (Str.ofString "wants", FV.f (.obj w))] := rfl
  have e := h2 k
  have e2 := vS_getD (A.H k)
  clear h2
  unfold fn_Locks_holder dn_Locks_holder
  walk_at "ev*"
theorem wanted_ok (k : Str) : fn_Locks_wanted [.obj b, .str k] S = .ok (.f (sD (A.W k))) S := by
  obtain ⟨kvs, h1, h2, -⟩ := i.T.tw
  have h0 := i.ob
  have Lc : (locksOb h l o w).cls = Str.ofString "Locks" := rfl
  have Lf : (locksOb h l o w).fs = [(Str.ofString "holders", FV.f (.obj h)), (Str.ofString "lines", FV.f (.obj l)), (Str.ofString "owns", FV.f (.obj o)), (Str.ofString "wants", FV.f (.obj w))] := rfl
  have e := h2 k
  have e2 := vS_getD (A.W k)
  clear h2
  unfold fn_Locks_wanted dn_Locks_wanted
  walk_at "ev*"
theorem waiting_ok (k : Str) : fn_Locks_waiting [.obj b, .str k] S = .ok (.o (((A.L k).getD []).map .str)) S := by
  obtain ⟨kvs, h1, h2, -⟩ := i.T.tl
  have h0 := i.ob
  have Lc : (locksOb h l o w).cls = Str.ofString "Locks" := rfl
  have Lf : (locksOb h l o w).fs = [(Str.ofString "holders", FV.f (.obj h)), (Str.ofString "lines", FV.f (.obj l)), (Str.ofString "owns", FV.f (.obj o)), (Str.ofString "wants", FV.f (.obj w))] := rfl
  have e := h2 k
  have e2 := vL_getD (A.L k)
  clear h2
  unfold fn_Locks_waiting dn_Locks_waiting
  walk_at "ev*"
theorem held_ok (k : Str) : fn_Locks_held [.obj b, .str k] S = .ok (.o (((A.O k).getD []).map .str)) S := by
  obtain ⟨kvs, h1, h2, -⟩ := i.T.to
  have h0 := i.ob
  have Lc : (locksOb h l o w).cls = Str.ofString "Locks" := rfl
  have Lf : (locksOb h l o w).fs = [(Str.ofString "holders", FV.f (.obj h)), (Str.ofString "lines", FV.f (.obj l)), (Str.ofString "owns", FV.f (.obj o)), (Str.ofString "wants", FV.f (.obj w))] := rfl
  have e := h2 k
  have e2 := vL_getD (A.O k)
  clear h2
  unfold fn_Locks_held dn_Locks_held
  walk_at "ev*"
theorem get_no (n k : Str) (c : Str) (hc : ((A.H k).isSome = true ∧ c = "Taken") ∨ (A.H k = none ∧ (A.W n).isSome = true ∧ c = "Known")) : fn_Locks_get [.obj b, .str n, .str k] S = .exc c S := by
  obtain ⟨kh, h1, h2, -⟩ := i.T.th
  obtain ⟨kw, w1, w2, -⟩ := i.T.tw
  have h0 := i.ob
  have Lc : (locksOb h l o w).cls = Str.ofString "Locks" := rfl
  have Lf : (locksOb h l o w).fs = [(Str.ofString "holders", FV.f (.obj h)), (Str.ofString "lines", FV.f (.obj l)), (Str.ofString "owns", FV.f (.obj o)), (Str.ofString "wants", FV.f (.obj w))] := rfl
  have e1 : getK kh (.inr k) = vS (A.H k) := h2 k
  have e2 : getK kw (.inr n) = vS (A.W n) := w2 n
  clear h2 w2
  unfold fn_Locks_get dn_Locks_get
  rcases hc with ⟨c1, rfl⟩ | ⟨c1, c2, rfl⟩
  · have c3 : (vS (A.H k)).isSome = true := by rw [vS_isSome]; exact c1
    clear c1
    walk_at "ev*"
  · rw [c1] at e1
    have c3 : (vS (A.W n)).isSome = true := by rw [vS_isSome]; exact c2
    have c4 : vS none = none := rfl
    clear c2 c1
    walk_at "ev*"
theorem get_yes (hN : N ≤ 100000) (n k : Str) (c1 : A.H k = none) (c2 : A.W n = none) (hl : ((A.O n).getD []).length ≤ 100000) : ∃ S', fn_Locks_get [.obj b, .str n, .str k] S = .ok (.f .non) S' ∧ InvL S' b h l o w (A.get n k) (N + 1) ∧ Fr S S' h l o w := by
  obtain ⟨kh, h1, h2, h3, h3k⟩ := i.T.th
  obtain ⟨kw, w1, w2, w3, w3k⟩ := i.T.tw
  obtain ⟨ko, o1, o2, o3, o3k⟩ := i.T.to
  obtain ⟨kl, l1, l2, l3, l3k⟩ := i.T.tl
  obtain ⟨a1, a2, a3, a4⟩ := i.apart
  obtain ⟨n1, n2, n3, n4, n5, n6⟩ := i.T.ne
  have h0 := i.ob
  have Lc : (locksOb h l o w).cls = Str.ofString "Locks" := rfl
  have Lf : (locksOb h l o w).fs = [(Str.ofString "holders", FV.f (.obj h)), (Str.ofString "lines", FV.f (.obj l)), (Str.ofString "owns", FV.f (.obj o)), (Str.ofString "wants", FV.f (.obj w))] := rfl
  have e1 : getK kh (.inr k) = vS (A.H k) := h2 k
  have e2 : getK kw (.inr n) = vS (A.W n) := w2 n
  have c4 : vS none = none := rfl
  rw [c1] at e1
  rw [c2] at e2
  have b1 : (S.set h (rK (putD kh (.inr k) (.str n))))[b]? = some (locksOb h l o w) := by rw [set_get_ne a1.symm]; exact h0
  have b2 : (S.set h (rK (putD kh (.inr k) (.str n))))[o]? = some (rK ko) := by rw [set_get_ne n2]; exact o1
  have i2 : InvL (S.set h (rK (putD kh (.inr k) (.str n)))) b h l o w { A with H := upF A.H k (some n) } (N + 1) := by
    refine ⟨b1, ⟨(Tb.put h1 h2 h3 h3k k (.str n)).eq fun m => ?_, i.T.tl.mono (by rw [set_get_ne n1]) (by omega), i.T.to.mono (by rw [set_get_ne n2]) (by omega), i.T.tw.mono (by rw [set_get_ne n3]) (by omega), i.T.ne⟩⟩
    unfold upF
    by_cases c : m = k
    · simp only [c, if_true]; rfl
    · simp only [c, if_false]
  have e3 := held_ok i2 n
  have l4 : (kh.length < lim) = True := eq_true (by unfold lim; omega)
  have l5 : (ko.length < lim) = True := eq_true (by unfold lim; omega)
  have l6 : (((A.O n).getD []).length + 1 ≤ lim) = True := eq_true (by unfold lim; omega)
  have f1 : (((A.O n).getD []) ++ [k]).map D.str = ((A.O n).getD []).map D.str ++ [.str k] := by rw [List.map_append]; rfl
  refine ⟨(S.set h (rK (putD kh (.inr k) (.str n)))).set o (rK (putD ko (.inr n) (.lst ((((A.O n).getD []) ++ [k]).map .str)))), ?_, ⟨by rw [set_get_ne a3.symm]; exact b1, ?_, ?_, ?_, ?_, i.T.ne⟩, by simp, fun j j1 j2 j3 j4 => by rw [set_get_ne (Ne.symm j3), set_get_ne (Ne.symm j1)]⟩
  · rw [f1]
    unfold fn_Locks_get dn_Locks_get
    clear h2 w2 o2 l2 i2 i
    walk_at "ev*"
  · exact i2.T.th.mono (by rw [set_get_ne n2.symm]) (by omega)
  · exact i2.T.tl.mono (by rw [set_get_ne n4.symm]) (by omega)
  · refine (Tb.put b2 o2 o3 o3k n _).eq fun m => ?_
    show _ = vL ((A.get n k).O m)
    unfold LK.get upF
    by_cases c : m = n
    · simp only [c, if_true]; rfl
    · simp only [c, if_false]
  · exact i2.T.tw.mono (by rw [set_get_ne n6]) (by omega)
end

/-! ### locks: single writings -/
section
variable {S : Store} {h l o w : Nat} {A : LK} {N : Nat} (t : Tabs S h l o w A N)
include t
theorem Tabs.setH {kh : List (Key × D)} (h1 : S[h]? = some (rK kh)) (h2 : ∀ n, getK kh (.inr n) = vS (A.H n)) (h3 : kh.length ≤ N) (h3k : KsT kh) (k n : Str) : Tabs (S.set h (rK (putD kh (.inr k) (.str n)))) h l o w { A with H := upF A.H k (some n) } (N + 1) := by
  obtain ⟨n1, n2, n3, n4, n5, n6⟩ := t.ne
  refine ⟨(Tb.put h1 h2 h3 h3k k _).eq fun m => ?_, t.tl.mono (by rw [set_get_ne n1]) (by omega), t.to.mono (by rw [set_get_ne n2]) (by omega), t.tw.mono (by rw [set_get_ne n3]) (by omega), t.ne⟩
  unfold upF
  by_cases c : m = k
  · simp only [c, if_true]; rfl
  · simp only [c, if_false]
theorem Tabs.dropH {kh : List (Key × D)} (h1 : S[h]? = some (rK kh)) (h2 : ∀ n, getK kh (.inr n) = vS (A.H n)) (h3 : kh.length ≤ N) (h3k : KsT kh) (k : Str) : Tabs (S.set h (rK (dropD kh (.inr k)))) h l o w { A with H := upF A.H k none } N := by
  obtain ⟨n1, n2, n3, n4, n5, n6⟩ := t.ne
  refine ⟨(Tb.drop h1 h2 h3 h3k k).eq fun m => ?_, t.tl.mono (by rw [set_get_ne n1]) (by omega), t.to.mono (by rw [set_get_ne n2]) (by omega), t.tw.mono (by rw [set_get_ne n3]) (by omega), t.ne⟩
  unfold upF
  by_cases c : m = k
  · simp only [c, if_true]; rfl
  · simp only [c, if_false]
theorem Tabs.setL {kl : List (Key × D)} (h1 : S[l]? = some (rK kl)) (h2 : ∀ n, getK kl (.inr n) = vL (A.L n)) (h3 : kl.length ≤ N) (h3k : KsT kl) (k : Str) (xs : List Str) : Tabs (S.set l (rK (putD kl (.inr k) (.lst (xs.map .str))))) h l o w { A with L := upF A.L k (some xs) } (N + 1) := by
  obtain ⟨n1, n2, n3, n4, n5, n6⟩ := t.ne
  refine ⟨t.th.mono (by rw [set_get_ne n1.symm]) (by omega), (Tb.put h1 h2 h3 h3k k _).eq fun m => ?_, t.to.mono (by rw [set_get_ne n4]) (by omega), t.tw.mono (by rw [set_get_ne n5]) (by omega), t.ne⟩
  unfold upF
  by_cases c : m = k
  · simp only [c, if_true]; rfl
  · simp only [c, if_false]
theorem Tabs.setO {ko : List (Key × D)} (h1 : S[o]? = some (rK ko)) (h2 : ∀ n, getK ko (.inr n) = vL (A.O n)) (h3 : ko.length ≤ N) (h3k : KsT ko) (k : Str) (xs : List Str) : Tabs (S.set o (rK (putD ko (.inr k) (.lst (xs.map .str))))) h l o w { A with O := upF A.O k (some xs) } (N + 1) := by
  obtain ⟨n1, n2, n3, n4, n5, n6⟩ := t.ne
  refine ⟨t.th.mono (by rw [set_get_ne n2.symm]) (by omega), t.tl.mono (by rw [set_get_ne n4.symm]) (by omega), (Tb.put h1 h2 h3 h3k k _).eq fun m => ?_, t.tw.mono (by rw [set_get_ne n6]) (by omega), t.ne⟩
  unfold upF
  by_cases c : m = k
  · simp only [c, if_true]; rfl
  · simp only [c, if_false]
theorem Tabs.setW {kw : List (Key × D)} (h1 : S[w]? = some (rK kw)) (h2 : ∀ n, getK kw (.inr n) = vS (A.W n)) (h3 : kw.length ≤ N) (h3k : KsT kw) (k n : Str) : Tabs (S.set w (rK (putD kw (.inr k) (.str n)))) h l o w { A with W := upF A.W k (some n) } (N + 1) := by
  obtain ⟨n1, n2, n3, n4, n5, n6⟩ := t.ne
  refine ⟨t.th.mono (by rw [set_get_ne n3.symm]) (by omega), t.tl.mono (by rw [set_get_ne n5.symm]) (by omega), t.to.mono (by rw [set_get_ne n6.symm]) (by omega), (Tb.put h1 h2 h3 h3k k _).eq fun m => ?_, t.ne⟩
  unfold upF
  by_cases c : m = k
  · simp only [c, if_true]; rfl
  · simp only [c, if_false]
theorem Tabs.dropW {kw : List (Key × D)} (h1 : S[w]? = some (rK kw)) (h2 : ∀ n, getK kw (.inr n) = vS (A.W n)) (h3 : kw.length ≤ N) (h3k : KsT kw) (k : Str) : Tabs (S.set w (rK (dropD kw (.inr k)))) h l o w { A with W := upF A.W k none } N := by
  obtain ⟨n1, n2, n3, n4, n5, n6⟩ := t.ne
  refine ⟨t.th.mono (by rw [set_get_ne n3.symm]) (by omega), t.tl.mono (by rw [set_get_ne n5.symm]) (by omega), t.to.mono (by rw [set_get_ne n6.symm]) (by omega), (Tb.drop h1 h2 h3 h3k k).eq fun m => ?_, t.ne⟩
  unfold upF
  by_cases c : m = k
  · simp only [c, if_true]; rfl
  · simp only [c, if_false]
end
theorem Fr.set {S : Store} {h l o w : Nat} (i : Nat) (ob : Ob) (hi : i = h ∨ i = l ∨ i = o ∨ i = w) : Fr S (S.set i ob) h l o w := ⟨by simp, fun j h1 h2 h3 h4 => by
  have : i ≠ j := by rcases hi with rfl | rfl | rfl | rfl <;> omega
  rw [set_get_ne this]⟩
theorem InvL.fr {S S' : Store} {b h l o w : Nat} {A A' : LK} {N N' : Nat} (i : InvL S b h l o w A N) (t : Tabs S' h l o w A' N') (f : Fr S S' h l o w) : InvL S' b h l o w A' N' := by
  obtain ⟨a1, a2, a3, a4⟩ := i.apart
  exact ⟨by rw [f.eq b a1 a2 a3 a4]; exact i.ob, t⟩
/-! ### arrows, rings -/
def LK.arrow (A : LK) (a : Str) : Option Str := (A.W a).bind A.H
/-- the way from at, until name is met or nobody; none: not within n steps -/
def chase (A : LK) (name : Str) : Nat → Option Str → List Str → Option (Option (List Str))
  | 0, _, _ => none
  | _ + 1, none, _ => some none
  | n + 1, some a, way => if a = name then some (some way) else chase A name n (A.arrow a) (way ++ [a])
theorem chase_mono {A : LK} {name : Str} : ∀ {n m : Nat} {at_ : Option Str} {way : List Str} {r : Option (List Str)}, chase A name n at_ way = some r → n ≤ m → chase A name m at_ way = some r
  | 0, _, _, _, _, h, _ => by cases h
  | n + 1, 0, _, _, _, _, h => by omega
  | n + 1, m + 1, none, _, _, h, _ => h
  | n + 1, m + 1, some a, way, r, h, hm => by
    unfold chase at h ⊢
    by_cases c : a = name
    · rw [if_pos c] at h ⊢; exact h
    · rw [if_neg c] at h ⊢; exact chase_mono h (by omega)
def oL : Option (List Str) → Res
  | none => .f .non
  | some xs => .o (xs.map .str)
section
variable {S : Store} {b h l o w : Nat} {A : LK} {N : Nat} (i : InvL S b h l o w A N)
include i
theorem arrow_ok (a : Str) : fn_arrow [.obj b, .str a] S = .ok (.f (sD (A.arrow a))) S := by
  have e1 := wanted_ok i a
  have h0 := i.ob
  have Lc : (locksOb h l o w).cls = Str.ofString "Locks" := rfl
  have Lf : (locksOb h l o w).fs = [(Str.ofString "holders", FV.f (.obj h)), (Str.ofString "lines", FV.f (.obj l)), (Str.ofString "owns", FV.f (.obj o)), (Str.ofString "wants", FV.f (.obj w))] := rfl
  unfold fn_arrow dn_arrow LK.arrow
  cases e : A.W a with
  | none =>
    rw [e] at e1
    replace e1 : fn_Locks_wanted [.obj b, .str a] S = .ok (.f .non) S := e1
    show _ = R.ok (Res.f .non) S
    clear e
    walk_at "ev*"
  | some k =>
    rw [e] at e1
    replace e1 : fn_Locks_wanted [.obj b, .str a] S = .ok (.f (.str k)) S := e1
    have e2 := holder_ok i k
    show _ = R.ok (Res.f (sD (A.H k))) S
    clear e
    walk_at "ev*"
theorem ring_ok (n k : Str) {r : Option (List Str)} (hr : chase A n 1000 (A.H k) [n] = some r) : fn_ring [.obj b, .str n, .str k] S = .ok (oL r) S := by
  have e1 := holder_ok i k
  have h0 := i.ob
  have Lc : (locksOb h l o w).cls = Str.ofString "Locks" := rfl
  have Lf : (locksOb h l o w).fs = [(Str.ofString "holders", FV.f (.obj h)), (Str.ofString "lines", FV.f (.obj l)), (Str.ofString "owns", FV.f (.obj o)), (Str.ofString "wants", FV.f (.obj w))] := rfl
  have key : ∀ (fuel : Nat) (at_ : Option Str) (way : List Str) (r : Option (List Str)), chase A n fuel at_ way = some r → way.length + fuel ≤ 2000 →
      ∃ at' way', whileD (tAndD (tBin isnD (eVar 4) (eC .non)) (tBin neD (eVar 4) (eVar 1))) (sCons (sApp 3 (eVar 4)) (sSet 4 (eFn fn_arrow (aCons (eVar 0) (aCons (eVar 4) aNil))))) fuel [EV.f (.obj b), EV.f (.str n), EV.f (.str k), EV.o (way.map .str), EV.f (sD at_)] S = .ok (.nx [EV.f (.obj b), EV.f (.str n), EV.f (.str k), EV.o (way'.map .str), EV.f (sD at')]) S ∧ ((at' = none ∧ r = none) ∨ (at' = some n ∧ r = some way')) := by
    intro fuel
    induction fuel with
    | zero => intro at_ way r hc; cases hc
    | succ m ih =>
      intro at_ way r hc hl
      cases at_ with
      | none =>
        cases hc
        refine ⟨none, way, ?_, .inl ⟨rfl, rfl⟩⟩
        unfold whileD sD
        clear ih i e1
        walk_at "ev*"
      | some a =>
        unfold chase at hc
        by_cases c : a = n
        · rw [if_pos c] at hc
          cases hc
          subst c
          refine ⟨some a, way, ?_, .inr ⟨rfl, rfl⟩⟩
          unfold whileD sD
          clear ih i e1
          walk_at "ev*"
        · rw [if_neg c] at hc
          obtain ⟨at', way', q1, q2⟩ := ih _ _ _ hc (by simp; omega)
          refine ⟨at', way', ?_, q2⟩
          rw [← q1]
          have e2 := arrow_ok i a
          have l1 : (way.length < lim) = True := eq_true (by unfold lim; omega)
          conv => lhs; unfold whileD
          rw [show sD (some a) = .str a from rfl]
          have f1 : (way ++ [a]).map D.str = way.map D.str ++ [.str a] := by rw [List.map_append]; rfl
          rw [f1]
          clear ih i e1 q1 q2 hc hr
          walk_at "ev*"
  obtain ⟨at', way', q1, q2⟩ := key 1000 _ _ _ hr (by simp)
  rw [show [n].map D.str = [.str n] from rfl] at q1
  unfold fn_ring dn_ring
  clear i key
  rcases q2 with ⟨rfl, rfl⟩ | ⟨rfl, rfl⟩
  · rw [show sD none = .non from rfl] at q1
    show _ = R.ok (Res.f .non) S
    walk_at "ev*"
  · rw [show sD (some n) = .str n from rfl] at q1
    show _ = R.ok (Res.o (way'.map .str)) S
    walk_at "ev*"
end

/-! ### want, give -/
theorem flt_gen (i : Nat) (xs : List Str) (k : Str) (t : En → M Bool) (env : En) (S : Store) (hi : i < env.length) (ht : ∀ x, t (env.set i (.f (.str x))) S = .ok (!decide (x = k)) S) (hl : xs.length ≤ 200000) : lcD (bName i) t (eVar i) env (xs.map .str) [] S = .ok ((xs.filter fun t => !decide (t = k)).map .str) S :=
  lcD_flt xs D.str (fun x => !decide (x = k)) D.str (by unfold lim; omega) (fun x _ => ⟨_, rfl, ht x, fun _ => by
    have g1 : (env.set i (.f (.str x)))[i]? = some (.f (.str x)) := List.getElem?_set_self hi
    unfold eVar
    rw [g1]
    rfl⟩)
theorem flt_strs (i j : Nat) (xs : List Str) (k : Str) (env : En) (S : Store) (hij : i ≠ j) (hi : i < env.length) (hj : env[j]? = some (.f (.str k))) (hl : xs.length ≤ 200000) : lcD (bName i) (tBin neD (eVar i) (eVar j)) (eVar i) env (xs.map .str) [] S = .ok ((xs.filter fun t => !decide (t = k)).map .str) S :=
  flt_gen i xs k _ env S hi (fun x => by
    have g1 : (env.set i (.f (.str x)))[i]? = some (.f (.str x)) := List.getElem?_set_self hi
    have g2 : (env.set i (.f (.str x)))[j]? = some (.f (.str k)) := by rw [List.getElem?_set_ne hij]; exact hj
    walk_at "ev*") hl
def LK.want (A : LK) (n k : Str) : LK := { A with L := upF A.L k (some ((A.L k).getD [] ++ [n])), W := upF A.W n (some k) }
def LK.give0 (A : LK) (n k : Str) : LK := { A with O := upF A.O n (some (((A.O n).getD []).filter fun t => !decide (t = k))), H := upF A.H k none }
def LK.give1 (A : LK) (n k e : Str) : LK :=
  let B := A.give0 n k
  { H := upF B.H k (some e), L := upF A.L k (some (((A.L k).getD []).filter fun t => !decide (t = e))), O := upF B.O e (some ((B.O e).getD [] ++ [k])), W := upF A.W e none }
section
variable {S : Store} {b h l o w : Nat} {A : LK} {N : Nat} (i : InvL S b h l o w A N)
include i
theorem want_no (n k : Str) (c : Str) (hc : (A.H k = none ∧ c = "Free") ∨ ((A.H k).isSome = true ∧ (A.W n).isSome = true ∧ c = "Known") ∨ ((A.H k).isSome = true ∧ A.W n = none ∧ (∃ way, chase A n 1000 (A.H k) [n] = some (some way)) ∧ c = "Knot")) : fn_Locks_want [.obj b, .str n, .str k] S = .exc c S := by
  obtain ⟨kh, h1, h2, -⟩ := i.T.th
  obtain ⟨kw, w1, w2, -⟩ := i.T.tw
  have h0 := i.ob
  have Lc : (locksOb h l o w).cls = Str.ofString "Locks" := rfl
  have Lf : (locksOb h l o w).fs = [(Str.ofString "holders", FV.f (.obj h)), (Str.ofString "lines", FV.f (.obj l)), (Str.ofString "owns", FV.f (.obj o)), (Str.ofString "wants", FV.f (.obj w))] := rfl
  have e1 : getK kh (.inr k) = vS (A.H k) := h2 k
  have e2 : getK kw (.inr n) = vS (A.W n) := w2 n
  clear h2 w2
  unfold fn_Locks_want dn_Locks_want
  rcases hc with ⟨c1, rfl⟩ | ⟨c1, c2, rfl⟩ | ⟨c1, c2, ⟨way, c3⟩, rfl⟩
  · rw [c1] at e1
    have c4 : vS none = none := rfl
    clear c1 i
    walk_at "ev*"
  · have c3 : (vS (A.H k)).isSome = true := by rw [vS_isSome]; exact c1
    have c4 : (vS (A.W n)).isSome = true := by rw [vS_isSome]; exact c2
    clear c1 c2 i
    walk_at "ev*"
  · have c4 : (vS (A.H k)).isSome = true := by rw [vS_isSome]; exact c1
    have c5 : vS none = none := rfl
    have rg := ring_ok i n k c3
    replace rg : fn_ring [.obj b, .str n, .str k] S = .ok (.o (way.map .str)) S := rg
    rw [c2] at e2
    clear c1 c2 c3 i
    walk_at "ev*"
theorem want_yes (hN : N ≤ 100000) (n k : Str) (c1 : (A.H k).isSome = true) (c2 : A.W n = none) (c3 : chase A n 1000 (A.H k) [n] = some none) (hl : ((A.L k).getD []).length ≤ 100000) : ∃ S', fn_Locks_want [.obj b, .str n, .str k] S = .ok (.f .non) S' ∧ InvL S' b h l o w (A.want n k) (N + 2) ∧ Fr S S' h l o w := by
  obtain ⟨kh, h1, h2, h3, h3k⟩ := i.T.th
  obtain ⟨kw, w1, w2, w3, w3k⟩ := i.T.tw
  obtain ⟨kl, l1, l2, l3, l3k⟩ := i.T.tl
  have h0 := i.ob
  have Lc : (locksOb h l o w).cls = Str.ofString "Locks" := rfl
  have Lf : (locksOb h l o w).fs = [(Str.ofString "holders", FV.f (.obj h)), (Str.ofString "lines", FV.f (.obj l)), (Str.ofString "owns", FV.f (.obj o)), (Str.ofString "wants", FV.f (.obj w))] := rfl
  have e1 : getK kh (.inr k) = vS (A.H k) := h2 k
  have e2 : getK kw (.inr n) = vS (A.W n) := w2 n
  have c4 : (vS (A.H k)).isSome = true := by rw [vS_isSome]; exact c1
  have c5 : vS none = none := rfl
  rw [c2] at e2
  have rg := ring_ok i n k c3
  replace rg : fn_ring [.obj b, .str n, .str k] S = .ok (.f .non) S := rg
  have wt := waiting_ok i k
  have t1 := i.T.setL l1 l2 l3 l3k k ((A.L k).getD [] ++ [n])
  have r1 := Fr.set (S := S) (h := h) (l := l) (o := o) (w := w) l (rK (putD kl (.inr k) (.lst (((A.L k).getD [] ++ [n]).map .str)))) (.inr (.inl rfl))
  have i1 := i.fr t1 r1
  have f1 : (((A.L k).getD []) ++ [n]).map D.str = ((A.L k).getD []).map D.str ++ [.str n] := by rw [List.map_append]; rfl
  rw [f1] at i1 r1
  obtain ⟨S1, hS1⟩ : ∃ S1 : Store, S.set l (rK (putD kl (.inr k) (.lst (((A.L k).getD []).map D.str ++ [.str n])))) = S1 := ⟨_, rfl⟩
  rw [hS1] at i1 r1
  obtain ⟨kw1, w4, w5, w6, w6k⟩ := i1.T.tw
  have t2 := i1.T.setW w4 w5 w6 w6k n k
  have r2 := Fr.set (S := S1) (h := h) (l := l) (o := o) (w := w) w (rK (putD kw1 (.inr n) (.str k))) (.inr (.inr (.inr rfl)))
  have i2 := i1.fr t2 r2
  have b1 := i1.ob
  have l4 : (kl.length < lim) = True := eq_true (by unfold lim; omega)
  have l5 : (kw1.length < lim) = True := eq_true (by unfold lim; omega)
  have l6 : (((A.L k).getD []).length + 1 ≤ lim) = True := eq_true (by unfold lim; omega)
  refine ⟨_, ?_, i2, r1.trans r2⟩
  unfold fn_Locks_want dn_Locks_want
  clear i i1 i2 t1 t2 r1 r2 c1 c2 c3 h2 w2 l2 w5 f1
  walk_at "ev*"
end

/-! ### give -/
section
variable {S : Store} {b h l o w : Nat} {A : LK} {N : Nat} (i : InvL S b h l o w A N)
include i
theorem give_no (n k : Str) (e : Option Str) (c : Str) (hl : ((A.L k).getD []).length ≤ 100000) (hc : (A.H k ≠ some n ∧ c = "Strange") ∨ (A.H k = some n ∧ ((e = none ∧ (A.L k).getD [] ≠ []) ∨ ∃ e', e = some e' ∧ e' ∉ (A.L k).getD []) ∧ c = "Unknown")) : fn_Locks_give [.obj b, .str n, .str k, sD e] S = .exc c S := by
  have e1 := holder_ok i k
  have e2 := waiting_ok i k
  have h0 := i.ob
  have Lc : (locksOb h l o w).cls = Str.ofString "Locks" := rfl
  have Lf : (locksOb h l o w).fs = [(Str.ofString "holders", FV.f (.obj h)), (Str.ofString "lines", FV.f (.obj l)), (Str.ofString "owns", FV.f (.obj o)), (Str.ofString "wants", FV.f (.obj w))] := rfl
  unfold fn_Locks_give dn_Locks_give
  rcases hc with ⟨c1, rfl⟩ | ⟨c1, c2, rfl⟩
  · have q : neD (sD (A.H k)) (.str n) = some true := by
      cases hh : A.H k with
      | none => rfl
      | some m =>
        show neD (.str m) (.str n) = _
        rw [neD_str, decide_eq_false (fun z => c1 (by rw [hh, z]))]
        rfl
    clear c1 i
    walk_at "ev*"
  · have q : neD (sD (A.H k)) (.str n) = some false := by rw [c1]; show neD (.str n) (.str n) = _; rw [neD_str, decide_eq_true rfl]; rfl
    have l1 : lenO [.lst (((A.L k).getD []).map D.str)] = some (.int ((A.L k).getD []).length) := by simp [lenO]
    rcases c2 with ⟨rfl, c2⟩ | ⟨e', rfl, c2⟩
    · have l2 : ((0 : Int) < (((A.L k).getD []).length : Int)) = True := eq_true (by have := List.length_pos_iff.mpr c2; omega)
      rw [show sD none = .non from rfl]
      clear c1 c2 i
      walk_at "ev*"
    · have l2 : ninD (.str e') (.lst (((A.L k).getD []).map D.str)) = some true := by rw [ninD_strs, decide_eq_false c2]; rfl
      rw [show sD (some e') = .str e' from rfl]
      clear c1 c2 i
      walk_at "ev*"
theorem give0_yes (hN : N ≤ 100000) (n k : Str) (c1 : A.H k = some n) (c2 : (A.L k).getD [] = []) (hl : ((A.O n).getD []).length ≤ 100000) : ∃ S', fn_Locks_give [.obj b, .str n, .str k, .non] S = .ok (.f .non) S' ∧ InvL S' b h l o w (A.give0 n k) (N + 1) ∧ Fr S S' h l o w := by
  have e1 := holder_ok i k
  have e2 := waiting_ok i k
  have e3 := held_ok i n
  have h0 := i.ob
  have Lc : (locksOb h l o w).cls = Str.ofString "Locks" := rfl
  have Lf : (locksOb h l o w).fs = [(Str.ofString "holders", FV.f (.obj h)), (Str.ofString "lines", FV.f (.obj l)), (Str.ofString "owns", FV.f (.obj o)), (Str.ofString "wants", FV.f (.obj w))] := rfl
  rw [c1] at e1
  rw [c2] at e2
  replace e1 : fn_Locks_holder [.obj b, .str k] S = .ok (.f (.str n)) S := e1
  replace e2 : fn_Locks_waiting [.obj b, .str k] S = .ok (.o []) S := e2
  obtain ⟨ko, o1, o2, o3, o3k⟩ := i.T.to
  have t1 := i.T.setO o1 o2 o3 o3k n (((A.O n).getD []).filter fun t => !decide (t = k))
  have r1 := Fr.set (S := S) (h := h) (l := l) (o := o) (w := w) o (rK (putD ko (.inr n) (.lst ((((A.O n).getD []).filter fun t => !decide (t = k)).map .str)))) (.inr (.inr (.inl rfl)))
  have i1 := i.fr t1 r1
  obtain ⟨S1, hS1⟩ : ∃ S1 : Store, S.set o (rK (putD ko (.inr n) (.lst ((((A.O n).getD []).filter fun t => !decide (t = k)).map .str)))) = S1 := ⟨_, rfl⟩
  rw [hS1] at i1 r1
  obtain ⟨kh, h1, h2, h3, h3k⟩ := i1.T.th
  have g1 : getK kh (.inr k) = some (.str n) := by rw [h2 k]; show vS (A.H k) = _; rw [c1]; rfl
  have t2 := i1.T.dropH h1 h2 h3 h3k k
  have r2 := Fr.set (S := S1) (h := h) (l := l) (o := o) (w := w) h (rK (dropD kh (.inr k))) (.inl rfl)
  have i2 := i1.fr t2 r2
  have b1 := i1.ob
  have fl := fun (env : En) (S : Store) (hi : 5 < env.length) (hj : env[2]? = some (.f (.str k))) => flt_strs 5 2 ((A.O n).getD []) k env S (by decide) hi hj (by omega)
  have l4 : (ko.length < lim) = True := eq_true (by unfold lim; omega)
  refine ⟨_, ?_, i2, r1.trans r2⟩
  unfold fn_Locks_give dn_Locks_give
  have l0 : lenO [.lst []] = some (.int 0) := rfl
  clear i i1 i2 t1 t2 r1 r2 c1 c2 h2 o2
  walk_at "ev*"
theorem give1_yes (hN : N ≤ 100000) (n k e : Str) (c1 : A.H k = some n) (c2 : e ∈ (A.L k).getD []) (c3 : (A.W e).isSome = true) (hl : ((A.O n).getD []).length ≤ 100000) (hl2 : ((A.O e).getD []).length ≤ 100000) (hl3 : ((A.L k).getD []).length ≤ 100000) : ∃ S', fn_Locks_give [.obj b, .str n, .str k, .str e] S = .ok (.f .non) S' ∧ InvL S' b h l o w (A.give1 n k e) (N + 4) ∧ Fr S S' h l o w := by
  have e1 := holder_ok i k
  have e2 := waiting_ok i k
  have e3 := held_ok i n
  have h0 := i.ob
  have Lc : (locksOb h l o w).cls = Str.ofString "Locks" := rfl
  have Lf : (locksOb h l o w).fs = [(Str.ofString "holders", FV.f (.obj h)), (Str.ofString "lines", FV.f (.obj l)), (Str.ofString "owns", FV.f (.obj o)), (Str.ofString "wants", FV.f (.obj w))] := rfl
  rw [c1] at e1
  replace e1 : fn_Locks_holder [.obj b, .str k] S = .ok (.f (.str n)) S := e1
  have hin : ninD (.str e) (.lst (((A.L k).getD []).map D.str)) = some false := by rw [ninD_strs, decide_eq_true c2]; rfl
  obtain ⟨ko, o1, o2, o3, o3k⟩ := i.T.to
  have t1 := i.T.setO o1 o2 o3 o3k n (((A.O n).getD []).filter fun t => !decide (t = k))
  have r1 := Fr.set (S := S) (h := h) (l := l) (o := o) (w := w) o (rK (putD ko (.inr n) (.lst ((((A.O n).getD []).filter fun t => !decide (t = k)).map .str)))) (.inr (.inr (.inl rfl)))
  have i1 := i.fr t1 r1
  obtain ⟨S1, hS1⟩ : ∃ S1 : Store, S.set o (rK (putD ko (.inr n) (.lst ((((A.O n).getD []).filter fun t => !decide (t = k)).map .str)))) = S1 := ⟨_, rfl⟩
  rw [hS1] at i1 r1
  obtain ⟨kh, h1, h2, h3, h3k⟩ := i1.T.th
  have g1 : getK kh (.inr k) = some (.str n) := by rw [h2 k]; show vS (A.H k) = _; rw [c1]; rfl
  have t2 := i1.T.dropH h1 h2 h3 h3k k
  have r2 := Fr.set (S := S1) (h := h) (l := l) (o := o) (w := w) h (rK (dropD kh (.inr k))) (.inl rfl)
  have i2 := i1.fr t2 r2
  obtain ⟨S2, hS2⟩ : ∃ S2 : Store, S1.set h (rK (dropD kh (.inr k))) = S2 := ⟨_, rfl⟩
  rw [hS2] at i2 r2
  obtain ⟨kl, l1, l2, l3, l3k⟩ := i2.T.tl
  have t3 := i2.T.setL l1 l2 l3 l3k k (((A.L k).getD []).filter fun t => !decide (t = e))
  have r3 := Fr.set (S := S2) (h := h) (l := l) (o := o) (w := w) l (rK (putD kl (.inr k) (.lst ((((A.L k).getD []).filter fun t => !decide (t = e)).map .str)))) (.inr (.inl rfl))
  have i3 := i2.fr t3 r3
  obtain ⟨S3, hS3⟩ : ∃ S3 : Store, S2.set l (rK (putD kl (.inr k) (.lst ((((A.L k).getD []).filter fun t => !decide (t = e)).map .str)))) = S3 := ⟨_, rfl⟩
  rw [hS3] at i3 r3
  obtain ⟨kw, w1, w2, w3, w3k⟩ := i3.T.tw
  obtain ⟨wv, hwv⟩ : ∃ wv, A.W e = some wv := Option.isSome_iff_exists.mp c3
  have g2 : getK kw (.inr e) = some (.str wv) := by rw [w2 e]; show vS (A.W e) = _; rw [hwv]; rfl
  have t4 := i3.T.dropW w1 w2 w3 w3k e
  have r4 := Fr.set (S := S3) (h := h) (l := l) (o := o) (w := w) w (rK (dropD kw (.inr e))) (.inr (.inr (.inr rfl)))
  have i4 := i3.fr t4 r4
  obtain ⟨S4, hS4⟩ : ∃ S4 : Store, S3.set w (rK (dropD kw (.inr e))) = S4 := ⟨_, rfl⟩
  rw [hS4] at i4 r4
  obtain ⟨kh2, h4, h5, h6, h6k⟩ := i4.T.th
  have t5 := i4.T.setH h4 h5 h6 h6k k e
  have r5 := Fr.set (S := S4) (h := h) (l := l) (o := o) (w := w) h (rK (putD kh2 (.inr k) (.str e))) (.inl rfl)
  have i5 := i4.fr t5 r5
  obtain ⟨S5, hS5⟩ : ∃ S5 : Store, S4.set h (rK (putD kh2 (.inr k) (.str e))) = S5 := ⟨_, rfl⟩
  rw [hS5] at i5 r5
  have e4 := held_ok i5 e
  obtain ⟨ko2, o4, o5, o6, o6k⟩ := i5.T.to
  have hB : (upF A.O n (some (((A.O n).getD []).filter fun t => !decide (t = k))) e) = (A.give0 n k).O e := rfl
  replace e4 : fn_Locks_held [.obj b, .str e] S5 = .ok (.o ((((A.give0 n k).O e).getD []).map .str)) S5 := e4
  have t6 := i5.T.setO o4 o5 o6 o6k e ((((A.give0 n k).O e).getD []) ++ [k])
  have r6 := Fr.set (S := S5) (h := h) (l := l) (o := o) (w := w) o (rK (putD ko2 (.inr e) (.lst (((((A.give0 n k).O e).getD []) ++ [k]).map .str)))) (.inr (.inr (.inl rfl)))
  have i6 := i5.fr t6 r6
  have hlen : (((A.give0 n k).O e).getD []).length ≤ 100000 := by
    rw [← hB]
    unfold upF
    by_cases c : e = n
    · rw [if_pos c]; exact Nat.le_trans (List.length_filter_le _ _) hl
    · rw [if_neg c]; exact hl2
  have f1 : ((((A.give0 n k).O e).getD []) ++ [k]).map D.str = (((A.give0 n k).O e).getD []).map D.str ++ [.str k] := by rw [List.map_append]; rfl
  rw [f1] at i6 r6
  have b1 := i1.ob
  have b2 := i2.ob
  have b3 := i3.ob
  have b4 := i4.ob
  have b5 := i5.ob
  have fl := fun (env : En) (S : Store) (hi : 5 < env.length) (hj : env[2]? = some (.f (.str k))) => flt_strs 5 2 ((A.O n).getD []) k env S (by decide) hi hj (by omega)
  have fl2 := fun (env : En) (S : Store) (hi : 5 < env.length) (hj : env[3]? = some (.f (.str e))) => flt_strs 5 3 ((A.L k).getD []) e env S (by decide) hi hj (by omega)
  have q1 : (ko.length < lim) = True := eq_true (by unfold lim; omega)
  have q2 : (kl.length < lim) = True := eq_true (by unfold lim; omega)
  have q3 : (kh2.length < lim) = True := eq_true (by unfold lim; omega)
  have q4 : (ko2.length < lim) = True := eq_true (by unfold lim; omega)
  have q5 : ((((A.give0 n k).O e).getD []).length + 1 ≤ lim) = True := eq_true (by unfold lim; omega)
  refine ⟨_, ?_, i6.mono (fun _ _ => rfl) (by omega), ((((r1.trans r2).trans r3).trans r4).trans r5).trans r6⟩
  unfold fn_Locks_give dn_Locks_give
  clear i i1 i2 i3 i4 i5 i6 t1 t2 t3 t4 t5 t6 r1 r2 r3 r4 r5 r6 c1 c2 c3 h2 o2 l2 w2 h5 o5 hB f1 hwv
  walk_at "ev*"
end

/-! ### locks: what stays true, no rings -/
/-- what is true of all that was done -/
structure Gd (A : LK) : Prop where
  o : ∀ k n, A.H k = some n → (A.O n).isSome = true
  w : ∀ k e, e ∈ (A.L k).getD [] → A.W e = some k
  l : ∀ k, (A.L k).getD [] ≠ [] → (A.H k).isSome = true
  v : ∀ a k, A.W a = some k → a ∈ (A.L k).getD []
def Sz (A : LK) (M : Nat) : Prop := (∀ n, ((A.L n).getD []).length ≤ M) ∧ ∀ n, ((A.O n).getD []).length ≤ M
theorem upF_same {α : Type} (f : Str → α) (n : Str) (a : α) : upF f n a n = a := by unfold upF; rw [if_pos rfl]
theorem upF_ne {α : Type} (f : Str → α) {n m : Str} (a : α) (h : m ≠ n) : upF f n a m = f m := by unfold upF; rw [if_neg h]
theorem Gd.new : Gd LK.new := ⟨fun _ _ h => (nomatch h), fun _ _ h => (nomatch h), fun _ h => absurd rfl h, fun _ _ h => (nomatch h)⟩
theorem Gd.get {A : LK} (g : Gd A) {n k : Str} (c1 : A.H k = none) : Gd (A.get n k) := by
  refine ⟨fun k' n' h => ?_, g.w, fun k' h => ?_, g.v⟩
  · show (upF A.O n _ n').isSome = true
    by_cases c : n' = n
    · rw [c, upF_same]; rfl
    · rw [upF_ne _ _ c]
      have h : upF A.H k (some n) k' = some n' := h
      by_cases c2 : k' = k
      · rw [c2, upF_same] at h; cases h; exact absurd rfl c
      · rw [upF_ne _ _ c2] at h; exact g.o _ _ h
  · show (upF A.H k (some n) k').isSome = true
    by_cases c : k' = k
    · rw [c, upF_same]; rfl
    · rw [upF_ne _ _ c]; exact g.l k' h
theorem Gd.want {A : LK} (g : Gd A) {n k : Str} (c1 : (A.H k).isSome = true) (c2 : A.W n = none) : Gd (A.want n k) := by
  have hL : ∀ k', ((A.want n k).L k').getD [] = if k' = k then (A.L k).getD [] ++ [n] else (A.L k').getD [] := fun k' => by
    show (upF A.L k _ k').getD [] = _
    by_cases c : k' = k
    · rw [c, upF_same, if_pos rfl]; rfl
    · rw [upF_ne _ _ c, if_neg c]
  refine ⟨g.o, fun k' e h => ?_, fun k' h => ?_, fun a k' h => ?_⟩
  · rw [hL] at h
    show upF A.W n (some k) e = some k'
    by_cases c : k' = k
    · rw [if_pos c] at h
      rcases List.mem_append.mp h with h | h
      · have q := g.w _ _ h
        by_cases c3 : e = n
        · rw [c3, c2] at q; cases q
        · rw [upF_ne _ _ c3, q, c]
      · simp only [List.mem_cons, List.not_mem_nil, or_false] at h
        rw [h, upF_same, c]
    · rw [if_neg c] at h
      have q := g.w _ _ h
      by_cases c3 : e = n
      · rw [c3, c2] at q; cases q
      · rw [upF_ne _ _ c3, q]
  · rw [hL] at h
    by_cases c : k' = k
    · rw [c]; exact c1
    · rw [if_neg c] at h; exact g.l _ h
  · have h : upF A.W n (some k) a = some k' := h
    rw [hL]
    by_cases c : a = n
    · rw [c, upF_same] at h
      cases h
      rw [if_pos rfl, c]; simp
    · rw [upF_ne _ _ c] at h
      have q := g.v _ _ h
      by_cases c3 : k' = k
      · rw [if_pos c3]; rw [c3] at q; exact List.mem_append_left _ q
      · rw [if_neg c3]; exact q
theorem Gd.give0 {A : LK} (g : Gd A) {n k : Str} (c2 : (A.L k).getD [] = []) : Gd (A.give0 n k) := by
  refine ⟨fun k' n' h => ?_, g.w, fun k' h => ?_, g.v⟩
  · have h : upF A.H k none k' = some n' := h
    show (upF A.O n _ n').isSome = true
    by_cases c : k' = k
    · rw [c, upF_same] at h; cases h
    · rw [upF_ne _ _ c] at h
      by_cases c3 : n' = n
      · rw [c3, upF_same]; rfl
      · rw [upF_ne _ _ c3]; exact g.o _ _ h
  · show (upF A.H k none k').isSome = true
    by_cases c : k' = k
    · rw [c] at h; exact absurd c2 h
    · rw [upF_ne _ _ c]; exact g.l _ h
theorem Gd.give1 {A : LK} (g : Gd A) {n k e : Str} (c2 : e ∈ (A.L k).getD []) : Gd (A.give1 n k e) := by
  have he := g.w _ _ c2
  have hL : ∀ k', ((A.give1 n k e).L k').getD [] = if k' = k then ((A.L k).getD []).filter (fun t => !decide (t = e)) else (A.L k').getD [] := fun k' => by
    show (upF A.L k _ k').getD [] = _
    by_cases c : k' = k
    · rw [c, upF_same, if_pos rfl]; rfl
    · rw [upF_ne _ _ c, if_neg c]
  refine ⟨fun k' n' h => ?_, fun k' a h => ?_, fun k' h => ?_, fun a k' h => ?_⟩
  · have h : upF (upF A.H k none) k (some e) k' = some n' := h
    show (upF (upF A.O n _) e _ n').isSome = true
    by_cases c : n' = e
    · rw [c, upF_same]; rfl
    · rw [upF_ne _ _ c]
      by_cases c3 : k' = k
      · rw [c3, upF_same] at h; cases h; exact absurd rfl c
      · rw [upF_ne _ _ c3, upF_ne _ _ c3] at h
        by_cases c4 : n' = n
        · rw [c4, upF_same]; rfl
        · rw [upF_ne _ _ c4]; exact g.o _ _ h
  · rw [hL] at h
    show upF A.W e none a = some k'
    by_cases c : k' = k
    · rw [if_pos c] at h
      obtain ⟨h1, h2⟩ := List.mem_filter.mp h
      have ne : a ≠ e := by simpa using h2
      rw [upF_ne _ _ ne, c]; exact g.w _ _ h1
    · rw [if_neg c] at h
      have q := g.w _ _ h
      have ne : a ≠ e := fun z => by rw [z, he] at q; cases q; exact c rfl
      rw [upF_ne _ _ ne]; exact q
  · rw [hL] at h
    show (upF (upF A.H k none) k (some e) k').isSome = true
    by_cases c : k' = k
    · rw [c, upF_same]; rfl
    · rw [upF_ne _ _ c, upF_ne _ _ c]
      rw [if_neg c] at h
      exact g.l _ h
  · have h : upF A.W e none a = some k' := h
    rw [hL]
    by_cases c : a = e
    · rw [c, upF_same] at h; cases h
    · rw [upF_ne _ _ c] at h
      have q := g.v _ _ h
      by_cases c3 : k' = k
      · rw [if_pos c3]
        rw [c3] at q
        exact List.mem_filter.mpr ⟨q, by simpa using c⟩
      · rw [if_neg c3]; exact q
def Acyc (A : LK) : Prop := ∃ rk : Str → Nat, ∀ a b, A.arrow a = some b → rk b < rk a
def Wn (A : LK) (T : List Str) : Prop := ∀ a, (A.W a).isSome = true → a ∈ T
theorem nodup_le : ∀ (l T : List Str), l.Nodup → (∀ x ∈ l, x ∈ T) → l.length ≤ T.length
  | [], T, _, _ => Nat.zero_le _
  | x :: l, T, h, hs => by
    obtain ⟨h1, h2⟩ := List.nodup_cons.mp h
    have hx : x ∈ T := hs x List.mem_cons_self
    have := nodup_le l (T.erase x) h2 (fun y hy => by
      have : y ≠ x := fun e => h1 (by rw [← e]; exact hy)
      exact (List.mem_erase_of_ne this).mpr (hs y (List.mem_cons_of_mem _ hy)))
    rw [List.length_erase_of_mem hx] at this
    have hp : 0 < T.length := List.length_pos_of_mem hx
    simp
    omega
theorem chase_long {A : LK} {n : Str} {rk : Str → Nat} (hrk : ∀ a b, A.arrow a = some b → rk b < rk a) : ∀ (f : Nat) (a : Str) (way : List Str), chase A n f (some a) way = none → ∃ l : List Str, f ≤ l.length + 1 ∧ l.Nodup ∧ ∀ x ∈ l, (A.W x).isSome = true ∧ rk x ≤ rk a
  | 0, a, way, _ => ⟨[], by simp, by simp, fun _ h => by cases h⟩
  | f + 1, a, way, h => by
    unfold chase at h
    by_cases c : a = n
    · rw [if_pos c] at h; cases h
    · rw [if_neg c] at h
      cases e : A.arrow a with
      | none =>
        rw [e] at h
        cases f with
        | zero => exact ⟨[], by simp, by simp, fun _ h => by cases h⟩
        | succ f => cases h
      | some b =>
        rw [e] at h
        obtain ⟨l, h1, h2, h3⟩ := chase_long hrk f b _ h
        have hb := hrk _ _ e
        have hw : (A.W a).isSome = true := by
          unfold LK.arrow at e
          cases q : A.W a with
          | none => rw [q] at e; cases e
          | some _ => rfl
        refine ⟨a :: l, by simp; omega, List.nodup_cons.mpr ⟨fun m => ?_, h2⟩, fun x hx => ?_⟩
        · have := (h3 a m).2; omega
        · rcases List.mem_cons.mp hx with rfl | hx
          · exact ⟨hw, Nat.le_refl _⟩
          · have := h3 x hx; exact ⟨this.1, by omega⟩
theorem chase_ends {A : LK} {T : List Str} (h : Acyc A) (hw : Wn A T) (hT : T.length ≤ 59) (n : Str) (at_ : Option Str) (way : List Str) : ∃ r, chase A n 61 at_ way = some r := by
  obtain ⟨rk, hrk⟩ := h
  cases at_ with
  | none => exact ⟨none, rfl⟩
  | some a =>
    cases e : chase A n 61 (some a) way with
    | some r => exact ⟨r, rfl⟩
    | none =>
      obtain ⟨l, h1, h2, h3⟩ := chase_long hrk 61 a way e
      have := nodup_le l T h2 (fun x hx => hw x (h3 x hx).1)
      omega
inductive Rch (A : LK) : Str → Str → Prop where
  | rfl (a : Str) : Rch A a a
  | step {a b c : Str} : A.arrow a = some b → Rch A b c → Rch A a c
theorem chase_no {A : LK} {n : Str} : ∀ (f : Nat) (a : Str) (way : List Str), chase A n f (some a) way = some none → ¬ Rch A a n
  | 0, _, _, h => by cases h
  | f + 1, a, way, h => by
    unfold chase at h
    by_cases c : a = n
    · rw [if_pos c] at h; cases h
    · rw [if_neg c] at h
      intro r
      cases r with
      | rfl => exact c rfl
      | step e r =>
        rw [e] at h
        exact chase_no f _ _ h r
theorem Acyc.get {A : LK} (h : Acyc A) (g : Gd A) {n k : Str} (c1 : A.H k = none) : Acyc (A.get n k) := by
  obtain ⟨rk, hrk⟩ := h
  refine ⟨rk, fun a b e => hrk a b ?_⟩
  have e : (A.W a).bind (upF A.H k (some n)) = some b := e
  unfold LK.arrow
  cases q : A.W a with
  | none => rw [q] at e; cases e
  | some k' =>
    rw [q] at e
    have e : upF A.H k (some n) k' = some b := e
    by_cases c : k' = k
    · have := g.v _ _ q
      have := g.l k' (fun z => by rw [z] at this; cases this)
      rw [c, c1] at this; cases this
    · rw [upF_ne _ _ c] at e; exact e
theorem Acyc.want {A : LK} (h : Acyc A) {n k hh : Str} {f : Nat} (hh2 : A.H k = some hh) (hr : chase A n f (some hh) [n] = some none) : Acyc (A.want n k) := by
  obtain ⟨rk, hrk⟩ := h
  have nr := chase_no _ _ _ hr
  classical
  refine ⟨fun x => if Rch A x n then rk x + rk hh + 1 else rk x, fun a b e => ?_⟩
  have e : (upF A.W n (some k) a).bind A.H = some b := e
  by_cases c : a = n
  · rw [c, upF_same] at e
    have e : A.H k = some b := e
    rw [hh2] at e
    cases e
    show (if Rch A hh n then _ else _) < (if Rch A a n then _ else _)
    rw [if_neg nr, c, if_pos (Rch.rfl n)]
    omega
  · rw [upF_ne _ _ c] at e
    have e : A.arrow a = some b := e
    have lt := hrk _ _ e
    show (if Rch A b n then _ else _) < (if Rch A a n then _ else _)
    by_cases c4 : Rch A b n
    · rw [if_pos c4, if_pos (Rch.step e c4)]; omega
    · rw [if_neg c4]
      by_cases c5 : Rch A a n
      · rw [if_pos c5]; omega
      · rw [if_neg c5]; exact lt
theorem Acyc.give0 {A : LK} (h : Acyc A) {n k : Str} : Acyc (A.give0 n k) := by
  obtain ⟨rk, hrk⟩ := h
  refine ⟨rk, fun a b e => hrk a b ?_⟩
  have e : (A.W a).bind (upF A.H k none) = some b := e
  unfold LK.arrow
  cases q : A.W a with
  | none => rw [q] at e; cases e
  | some k' =>
    rw [q] at e
    have e : upF A.H k none k' = some b := e
    by_cases c : k' = k
    · rw [c, upF_same] at e; cases e
    · rw [upF_ne _ _ c] at e; exact e
theorem Acyc.give1 {A : LK} (h : Acyc A) {n k e : Str} : Acyc (A.give1 n k e) := by
  obtain ⟨rk, hrk⟩ := h
  refine ⟨fun x => if x = e then 0 else rk x + 1, fun a b q => ?_⟩
  have q : (upF A.W e none a).bind (upF (upF A.H k none) k (some e)) = some b := q
  by_cases c : a = e
  · rw [c, upF_same] at q; cases q
  · rw [upF_ne _ _ c] at q
    show (if b = e then 0 else rk b + 1) < (if a = e then 0 else rk a + 1)
    rw [if_neg c]
    by_cases c5 : b = e
    · rw [if_pos c5]; omega
    · rw [if_neg c5]
      cases qw : A.W a with
      | none => rw [qw] at q; cases q
      | some k' =>
        rw [qw] at q
        have q : upF (upF A.H k none) k (some e) k' = some b := q
        by_cases c6 : k' = k
        · rw [c6, upF_same] at q; cases q; exact absurd rfl c5
        · rw [upF_ne _ _ c6, upF_ne _ _ c6] at q
          have := hrk a b (by unfold LK.arrow; rw [qw]; exact q)
          omega
theorem Acyc.new : Acyc LK.new := ⟨fun _ => 0, fun a b e => by cases e⟩

/-! ### the laws' own tables -/
def stK (h l o w : Nat) : D := .dct [(.inr (Str.ofString "holder"), .obj h), (.inr (Str.ofString "line"), .obj l), (.inr (Str.ofString "held"), .obj o), (.inr (Str.ofString "want"), .obj w)]
theorem stK_h (h l o w : Nat) : dgetD (stK h l o w) (.str (Str.ofString "holder")) = some (.obj h) := by
  unfold stK
  rw [dgetD_str]
  simp [getK_cons, ofString_inj]
theorem stK_l (h l o w : Nat) : dgetD (stK h l o w) (.str (Str.ofString "line")) = some (.obj l) := by
  unfold stK
  rw [dgetD_str]
  simp [getK_cons, ofString_inj]
theorem stK_o (h l o w : Nat) : dgetD (stK h l o w) (.str (Str.ofString "held")) = some (.obj o) := by
  unfold stK
  rw [dgetD_str]
  simp [getK_cons, ofString_inj]
theorem stK_w (h l o w : Nat) : dgetD (stK h l o w) (.str (Str.ofString "want")) = some (.obj w) := by
  unfold stK
  rw [dgetD_str]
  simp [getK_cons, ofString_inj]
theorem linit_ok {S : Store} {b : Nat} (hb : S[b]? = some ⟨"Locks", []⟩) : ∃ S', fn_Locks___init__ [.obj b] S = .ok (.f .non) S' ∧ InvL S' b S.length (S.length + 1) (S.length + 2) (S.length + 3) LK.new 0 ∧ S'.length = S.length + 4 ∧ ∀ j, j ≠ b → j < S.length → S'[j]? = S[j]? := by
  have hbl : b < S.length := (List.getElem?_eq_some_iff.mp hb).1
  unfold fn_Locks___init__ dn_Locks___init__
  obtain ⟨S1, hS1⟩ : ∃ S1 : Store, S1 = (S ++ [rK []]).set b ⟨"Locks", [("holders", .f (.obj S.length))]⟩ := ⟨_, rfl⟩
  have l1 : S1.length = S.length + 1 := by rw [hS1]; simp
  obtain ⟨S2, hS2⟩ : ∃ S2 : Store, S2 = (S1 ++ [rK []]).set b ⟨"Locks", [("holders", .f (.obj S.length)), ("lines", .f (.obj (S.length + 1)))]⟩ := ⟨_, rfl⟩
  have l2 : S2.length = S.length + 2 := by rw [hS2]; simp [l1]
  obtain ⟨S3, hS3⟩ : ∃ S3 : Store, S3 = (S2 ++ [rK []]).set b ⟨"Locks", [("holders", .f (.obj S.length)), ("lines", .f (.obj (S.length + 1))), ("owns", .f (.obj (S.length + 2)))]⟩ := ⟨_, rfl⟩
  have l3 : S3.length = S.length + 3 := by rw [hS3]; simp [l2]
  obtain ⟨S4, hS4⟩ : ∃ S4 : Store, S4 = (S3 ++ [rK []]).set b (locksOb S.length (S.length + 1) (S.length + 2) (S.length + 3)) := ⟨_, rfl⟩
  have l4 : S4.length = S.length + 4 := by rw [hS4]; simp [l3]
  have b0 : (S ++ [rK []])[b]? = some ⟨"Locks", []⟩ := by rw [List.getElem?_append_left hbl]; exact hb
  have b1 : (S1 ++ [rK []])[b]? = some ⟨"Locks", [("holders", .f (.obj S.length))]⟩ := by rw [List.getElem?_append_left (by omega), hS1]; exact set_get b0
  have b2 : (S2 ++ [rK []])[b]? = some ⟨"Locks", [("holders", .f (.obj S.length)), ("lines", .f (.obj (S.length + 1)))]⟩ := by rw [List.getElem?_append_left (by omega), hS2]; exact set_get b1
  have b3 : (S3 ++ [rK []])[b]? = some ⟨"Locks", [("holders", .f (.obj S.length)), ("lines", .f (.obj (S.length + 1))), ("owns", .f (.obj (S.length + 2)))]⟩ := by rw [List.getElem?_append_left (by omega), hS3]; exact set_get b2
  have b4 : S4[b]? = some (locksOb S.length (S.length + 1) (S.length + 2) (S.length + 3)) := by rw [hS4]; exact set_get b3
  have step : ∀ (T T' : Store) (ob : Ob) (j : Nat), T' = (T ++ [rK []]).set b ob → j ≠ b → T'[j]? = if j < T.length then T[j]? else if j = T.length then some (rK []) else none := fun T T' ob j e hj => by
    rw [e, set_get_ne (Ne.symm hj)]
    by_cases c : j < T.length
    · rw [if_pos c, List.getElem?_append_left c]
    · rw [if_neg c, List.getElem?_append_right (by omega)]
      by_cases c2 : j = T.length
      · rw [if_pos c2, c2, Nat.sub_self]; rfl
      · rw [if_neg c2]
        obtain ⟨m, hm⟩ : ∃ m, j - T.length = m + 1 := ⟨j - T.length - 1, by omega⟩
        rw [hm]; rfl
  have all : ∀ j, j ≠ b → S4[j]? = if j < S.length then S[j]? else if j < S.length + 4 then some (rK []) else none := fun j hj => by
    rw [step S3 S4 _ j hS4 hj, step S2 S3 _ j hS3 hj, step S1 S2 _ j hS2 hj, step S S1 _ j hS1 hj, l1, l2, l3]
    by_cases c : j < S.length
    · simp only [c, if_true]
      rw [if_pos (by omega), if_pos (by omega), if_pos (by omega)]
    · rw [if_neg c]
      by_cases d0 : j = S.length
      · subst d0; simp
      · by_cases d1 : j = S.length + 1
        · subst d1; simp
        · by_cases d2 : j = S.length + 2
          · subst d2; simp
          · by_cases d3 : j = S.length + 3
            · subst d3; simp
            · rw [if_neg (show ¬ j < S.length + 3 by omega), if_neg d3, if_neg (show ¬ j < S.length + 4 by omega), if_neg c]
  have tb : ∀ j (f : Str → Option D), (∀ n, f n = none) → j ≠ b → S.length ≤ j → j < S.length + 4 → Tb S4 j f 0 := fun j f hf h1 h2 h3 => ⟨[], by rw [all j h1, if_neg (by omega), if_pos h3], fun n => by rw [hf]; rfl, Nat.le_refl _, KsT.nil⟩
  refine ⟨S4, ?_, ⟨b4, tb _ _ (fun _ => rfl) (by omega) (by omega) (by omega), tb _ _ (fun _ => rfl) (by omega) (by omega) (by omega), tb _ _ (fun _ => rfl) (by omega) (by omega) (by omega), tb _ _ (fun _ => rfl) (by omega) (by omega) (by omega), by omega⟩, l4, fun j hj hl => by rw [all j hj, if_pos hl]⟩
  have hS1' := hS1.symm
  have hS2' := hS2.symm
  have hS3' := hS3.symm
  have hS4' : (S3 ++ [rK []]).set b ⟨"Locks", [("holders", .f (.obj S.length)), ("lines", .f (.obj (S.length + 1))), ("owns", .f (.obj (S.length + 2))), ("wants", .f (.obj (S.length + 3)))]⟩ = S4 := hS4.symm
  clear step all tb hS1 hS2 hS3 hS4
  walk_at "ev*"
def lowB (c : Nat) : Bool := decide (c < 128)
theorem low_ok {l : List Nat} (h : l.all lowB = true) : PyData.strOk (tx l) = true := by
  show (l.toArray).all _ = true
  rw [List.all_toArray, List.all_eq_true]
  intro c hc
  have := List.all_eq_true.mp h c hc
  unfold lowB at this
  simp at this ⊢
  omega
theorem low_app {a b : List Nat} (h : a.all lowB = true) (k : b.all lowB = true) : (a ++ b).all lowB = true := by rw [List.all_append, h, k]; rfl
theorem name_by_ok (k : Nat) (cell : Int) (S : Store) : ∃ l, fn_law_name_by [.int k, .int cell] S = .ok (.f (.str (tx l))) S ∧ l.length ≤ 10 ∧ l.all lowB = true := by
  obtain ⟨c1, h1, g1, -⟩ := lit_at (s := ("bcdefghijklmnopqrstuvwxy" : Str)) _ rfl lowB (by decide) (by decide) (i := (k : Int) % 24) (by omega) (by show (_ : Int) % 24 < 24; omega)
  obtain ⟨c2, h2, g2, -⟩ := lit_at (s := ("a0z" : Str)) _ rfl lowB (by decide) (by decide) (i := (k : Int) / 24 % 3) (by omega) (by show (_ : Int) % 3 < 3; omega)
  unfold fn_law_name_by dn_law_name_by
  by_cases hp : cell % 2 = 1
  · obtain ⟨j, hj⟩ : ∃ j : Nat, cell / 2 % 3 = j := ⟨(cell / 2 % 3).toNat, by omega⟩
    have hjl : j < 3 := by omega
    have e : ∃ l : List Nat, ixD (.lst [.str (Str.ofString "t"), .str (Str.ofString "ab"), .str (Str.ofString "x9a")]) (.int (j : Nat)) = some (.str (tx l)) ∧ l.length ≤ 3 ∧ l.all lowB = true := by
      match j, hjl with
      | 0, _ => exact ⟨[116], rfl, by decide, by decide⟩
      | 1, _ => exact ⟨[97, 98], rfl, by decide, by decide⟩
      | 2, _ => exact ⟨[120, 57, 97], rfl, by decide, by decide⟩
    obtain ⟨l, e1, e2, e3⟩ := e
    have f1 : ((tx l).length + (⟨#[c1]⟩ : Str).length ≤ lim) = True := eq_true (by rw [tx_len]; show l.length + 1 ≤ lim; unfold lim; omega)
    have f2 : tx l ++ (⟨#[c1]⟩ : Str) = tx (l ++ [c1]) := tx_app l [c1]
    have f3 : ((tx (l ++ [c1])).length + (⟨#[c2]⟩ : Str).length ≤ lim) = True := eq_true (by rw [tx_len]; simp [lim]; show l.length + 1 + 1 ≤ _; omega)
    have f4 : tx (l ++ [c1]) ++ (⟨#[c2]⟩ : Str) = tx (l ++ [c1] ++ [c2]) := tx_app _ [c2]
    refine ⟨l ++ [c1] ++ [c2], ?_, by simp; omega, low_app (low_app e3 (by rw [List.all_cons, g1]; rfl)) (by rw [List.all_cons, g2]; rfl)⟩
    walk_at "ev*"
  · generalize hpl : cell / 2 % 7 = place
    have hp0 : 0 ≤ place ∧ place < 7 := by omega
    have b0 : ((Str.ofString "a").length ≤ 16) = True := eq_true (by decide)
    have b1 : (-1000000 ≤ place ∧ place ≤ 1000000) = True := eq_true ⟨by omega, by omega⟩
    have b2 : (-1000000 ≤ 6 - place ∧ 6 - place ≤ 1000000) = True := eq_true ⟨by omega, by omega⟩
    have m1 : ∀ n : Int, Txt.mul (Str.ofString "a") n = tx (List.replicate n.toNat 97) := fun n => by rw [show (Str.ofString "a") = ⟨#[97]⟩ from rfl, mul_one]
    have low : ∀ n, (List.replicate n 97).all lowB = true := fun n => List.all_eq_true.mpr fun x hx => by rw [(List.mem_replicate.mp hx).2]; rfl
    have f1 : ((tx (List.replicate place.toNat 97)).length + (⟨#[c1]⟩ : Str).length ≤ lim) = True := eq_true (by rw [tx_len]; show _ + 1 ≤ lim; rw [List.length_replicate]; unfold lim; omega)
    have f2 : tx (List.replicate place.toNat 97) ++ (⟨#[c1]⟩ : Str) = tx (List.replicate place.toNat 97 ++ [c1]) := tx_app _ [c1]
    have f3 : ((tx (List.replicate place.toNat 97 ++ [c1])).length + (⟨#[c2]⟩ : Str).length ≤ lim) = True := eq_true (by rw [tx_len]; simp [lim]; show _ + 1 + 1 ≤ _; omega)
    have f4 : tx (List.replicate place.toNat 97 ++ [c1]) ++ (⟨#[c2]⟩ : Str) = tx (List.replicate place.toNat 97 ++ [c1] ++ [c2]) := tx_app _ [c2]
    have f5 : ((tx (List.replicate place.toNat 97 ++ [c1] ++ [c2])).length + (tx (List.replicate (6 - place).toNat 97)).length ≤ lim) = True := eq_true (by rw [tx_len, tx_len]; simp [lim]; omega)
    have f6 : tx (List.replicate place.toNat 97 ++ [c1] ++ [c2]) ++ tx (List.replicate (6 - place).toNat 97) = tx (List.replicate place.toNat 97 ++ [c1] ++ [c2] ++ List.replicate (6 - place).toNat 97) := tx_app _ _
    refine ⟨List.replicate place.toNat 97 ++ [c1] ++ [c2] ++ List.replicate (6 - place).toNat 97, ?_, by simp; omega, low_app (low_app (low_app (low _) (by rw [List.all_cons, g1]; rfl)) (by rw [List.all_cons, g2]; rfl)) (low _)⟩
    clear low
    walk_at "ev*"
theorem mrg (h l o w : Nat) : D.dct (mergeD [] [(.inr (Str.ofString "holder"), .obj h), (.inr (Str.ofString "line"), .obj l), (.inr (Str.ofString "held"), .obj o), (.inr (Str.ofString "want"), .obj w)]) = stK h l o w := by
  unfold stK mergeD
  congr 1
theorem new4 (S : Store) : Tabs (S ++ [rK []] ++ [rK []] ++ [rK []] ++ [rK []]) S.length (S.length + 1) (S.length + 2) (S.length + 3) LK.new 0 := by
  have e : ∀ j, j < 4 → (S ++ [rK []] ++ [rK []] ++ [rK []] ++ [rK []])[S.length + j]? = some (rK []) := fun j hj => by
    rw [List.append_assoc, List.append_assoc, List.append_assoc, List.getElem?_append_right (Nat.le_add_right _ _), Nat.add_sub_cancel_left]
    match j, hj with
    | 0, _ => rfl
    | 1, _ => rfl
    | 2, _ => rfl
    | 3, _ => rfl
  have tb : ∀ j (f : Str → Option D), (∀ n, f n = none) → j < 4 → Tb (S ++ [rK []] ++ [rK []] ++ [rK []] ++ [rK []]) (S.length + j) f 0 := fun j f hf hj => ⟨[], e j hj, fun n => by rw [hf]; rfl, Nat.le_refl _, KsT.nil⟩
  exact ⟨tb 0 _ (fun _ => rfl) (by decide), tb 1 _ (fun _ => rfl) (by decide), tb 2 _ (fun _ => rfl) (by decide), tb 3 _ (fun _ => rfl) (by decide), by omega⟩

/-! ### the law's ring -/
def rD : Option (List Str) → D
  | none => .non
  | some xs => .lst (xs.map .str)
section
variable {S : Store} {h l o w : Nat} {A : LK} {N : Nat} (t : Tabs S h l o w A N)
include t
theorem lring_ok (n k : Str) {r : Option (List Str)} (hr : chase A n 61 (A.H k) [n] = some r) : fn_law_ring [stK h l o w, .str n, .str k] S = .ok (.f (rD r)) S := by
  obtain ⟨kh, h1, h2, -⟩ := t.th
  obtain ⟨kw, w1, w2, -⟩ := t.tw
  have g1 := stK_h h l o w
  have g4 := stK_w h l o w
  have e1 : getK kh (.inr k) = vS (A.H k) := h2 k
  have e2 := vS_getD (A.H k)
  generalize stK h l o w = st at *
  have key : ∀ (xs : List D) (a5 : EV) (at_ : Option Str) (way : List Str) (r : Option (List Str)), chase A n xs.length at_ way = some r → way.length + xs.length ≤ 2000 →
      forD (sCons (sIf (tBin isD (eVar 3) (eC .non)) (sRet (eC .non)) (sNil)) (sCons (sIf (tBin eqD (eVar 3) (eVar 1)) (sRet (eVar 4)) (sNil)) (sCons (sSet 4 (eBin addD (eVar 4) (eO (eLst (aCons (eVar 3) (aNil)))))) (sSet 3 (eGet1 (eRd (eBin dgetD (eVar 0) (eC (.str "holder")))) (eGet1 (eRd (eBin dgetD (eVar 0) (eC (.str "want")))) (eVar 3))))))) (bName 5) xs [EV.f st, EV.f (.str n), EV.f (.str k), EV.f (sD at_), EV.f (.lst (way.map .str)), a5] S = .ok (.rt (rD r)) S := by
    intro xs
    induction xs with
    | nil => intro a5 at_ way r hc; cases hc
    | cons x xs ih =>
      intro a5 at_ way r hc hl
      replace hc : chase A n (xs.length + 1) at_ way = some r := hc
      have hl : way.length + (xs.length + 1) ≤ 2000 := hl
      cases at_ with
      | none =>
        cases hc
        unfold sD rD
        clear ih t
        walk_at "evl"
      | some a =>
        unfold chase at hc
        by_cases c : a = n
        · rw [if_pos c] at hc
          cases hc
          subst c
          unfold sD rD
          clear ih t
          walk_at "evl"
        · rw [if_neg c] at hc
          have q := ih (EV.f x) _ _ _ hc (by simp; omega)
          have f1 : (way ++ [a]).map D.str = way.map D.str ++ [.str a] := by rw [List.map_append]; rfl
          rw [f1] at q
          have l1 : (way.length + 1 ≤ lim) = True := eq_true (by unfold lim; omega)
          have e3 : getK kw (.inr a) = vS (A.W a) := w2 a
          have e4 := vS_getD (A.W a)
          have e5 : getN kh (sD (A.W a)) = some (sD (A.arrow a)) := by
            unfold LK.arrow
            cases hw : A.W a with
            | none => rfl
            | some k2 =>
              show getN kh (.str k2) = _
              rw [getN_str, h2 k2]
              show some ((vS (A.H k2)).getD .non) = _
              rw [vS_getD]; rfl
          rw [show sD (some a) = .str a from rfl]
          clear ih t hc f1 h2 w2 e1 e2
          rw [forD_cons_S]
          walk_at "ev*"
  unfold fn_law_ring dn_law_ring
  have q := key (rng 0 61) EV.u (A.H k) [n] r hr (by simp [rng])
  rw [show [n].map D.str = [.str n] from rfl] at q
  have hb : (-1000000 ≤ (61 : Int) ∧ (61 : Int) ≤ 1000000) = True := by decide
  clear key t h2 w2
  walk_at "ev*"
end

/-! ### ranks lent -/
/-- who waits for a task's locks, lock by lock -/
def wtrs (A : LK) (x : Str) : List Str := ((A.O x).getD []).flatMap fun k => (A.L k).getD []
def lentS (A : LK) (R : Str → Option Int) : Nat → Str → Option Int
  | 0, _ => none
  | n + 1, x => (R x).bind fun r => (wtrs A x).foldl (fun acc one => acc.bind fun m => (lentS A R n one).map fun v => if v > m then v else m) (some r)
theorem fold_none {α β : Type} (f : Option α → β → Option α) (h : ∀ b, f none b = none) : ∀ l : List β, l.foldl f none = none
  | [] => rfl
  | b :: l => by rw [List.foldl_cons, h, fold_none f h l]
section
variable {S : Store} {b h l o w : Nat} {A : LK} {N : Nat} (i : InvL S b h l o w A N)
include i
theorem waiters_loop (x : D) : ∀ (ks : List Str) (acc : List Str) (e : EV), acc.length + (ks.flatMap fun k => (A.L k).getD []).length ≤ 100000 → ∃ e', forD (sExt 2 (eMt "Locks" "waiting" (eVar 0) fn_Locks_waiting (aCons (eVar 3) (aNil)))) (bName 3) (ks.map .str) [.f (.obj b), .f x, .o (acc.map .str), e] S = .ok (.nx [.f (.obj b), .f x, .o ((acc ++ ks.flatMap fun k => (A.L k).getD []).map .str), e']) S
  | [], acc, e, _ => ⟨e, by simp; rfl⟩
  | k :: ks, acc, e, hl => by
    rw [List.flatMap_cons, List.length_append] at hl
    obtain ⟨e', q⟩ := waiters_loop x ks (acc ++ (A.L k).getD []) (.f (.str k)) (by rw [List.length_append]; omega)
    refine ⟨e', ?_⟩
    have wk := waiting_ok i k
    have h0 := i.ob
    have Lc : (locksOb h l o w).cls = Str.ofString "Locks" := rfl
    have Lf : (locksOb h l o w).fs = [(Str.ofString "holders", FV.f (.obj h)), (Str.ofString "lines", FV.f (.obj l)), (Str.ofString "owns", FV.f (.obj o)), (Str.ofString "wants", FV.f (.obj w))] := rfl
    have ll : (acc.length + ((A.L k).getD []).length ≤ lim) = True := eq_true (by unfold lim; omega)
    have st : sExt 2 (eMt "Locks" "waiting" (eVar 0) fn_Locks_waiting (aCons (eVar 3) (aNil))) [.f (.obj b), .f x, .o (acc.map .str), .f (.str k)] S = .ok (.nx [.f (.obj b), .f x, .o ((acc ++ (A.L k).getD []).map .str), .f (.str k)]) S := by
      rw [List.map_append]
      clear q hl i
      generalize (A.L k).getD [] = ys at *
      walk_at "ev*"
    rw [List.map_cons, forD_nx (show bName 3 (.str k) _ = some [.f (.obj b), .f x, .o (acc.map .str), .f (.str k)] from rfl) st, q, List.flatMap_cons, List.append_assoc]
theorem waiters_ok (x : Str) (hw : (wtrs A x).length ≤ 100000) : fn_waiters [.obj b, .str x] S = .ok (.o ((wtrs A x).map .str)) S := by
  obtain ⟨e', q⟩ := waiters_loop i (.str x) ((A.O x).getD []) [] .u (by simpa [wtrs] using hw)
  have q : forD (sExt 2 (eMt "Locks" "waiting" (eVar 0) fn_Locks_waiting (aCons (eVar 3) (aNil)))) (bName 3) (((A.O x).getD []).map .str) [.f (.obj b), .f (.str x), .o [], .u] S = .ok (.nx [.f (.obj b), .f (.str x), .o ((wtrs A x).map .str), e']) S := q
  have hk := held_ok i x
  have h0 := i.ob
  have Lc : (locksOb h l o w).cls = Str.ofString "Locks" := rfl
  have Lf : (locksOb h l o w).fs = [(Str.ofString "holders", FV.f (.obj h)), (Str.ofString "lines", FV.f (.obj l)), (Str.ofString "owns", FV.f (.obj o)), (Str.ofString "wants", FV.f (.obj w))] := rfl
  unfold fn_waiters dn_waiters
  clear i
  generalize sExt 2 (eMt "Locks" "waiting" (eVar 0) fn_Locks_waiting (aCons (eVar 3) (aNil))) = bd at *
  generalize (wtrs A x).map D.str = ws at *
  generalize ((A.O x).getD []).map D.str = ks at *
  walk_at "ev*"
variable {d : Nat} {kvs : List (Key × D)} {R : Str → Option Int} (hd : S[d]? = some (rK kvs)) (hR : ∀ y, getK kvs (.inr y) = (R y).map .int) (hw : ∀ y, (wtrs A y).length ≤ 100000)
include hd hR hw
theorem lentN_ok : ∀ (n : Nat) (x : Str) (r : Int), lentS A R n x = some r → fnN_lent n [.obj b, .obj d, .str x] S = .ok (.f (.int r)) S
  | 0, x, r, e => by cases e
  | n + 1, x, r, e => by
    have ih := lentN_ok n
    show fnD 5 (dn_lent (fnN_lent n)) [.obj b, .obj d, .str x] S = _
    unfold dn_lent
    unfold lentS at e
    have wt := waiters_ok i x (hw x)
    have gx := hR x
    cases c : R x with
    | none => rw [c] at e; cases e
    | some r0 =>
      rw [c] at e gx
      have gx : getK kvs (.inr x) = some (.int r0) := gx
      have e : (wtrs A x).foldl (fun acc one => acc.bind fun m => (lentS A R n one).map fun v => if v > m then v else m) (some r0) = some r := e
      obtain ⟨B, hB⟩ : ∃ B, B = sSet 3 (eCall maxO (aCons (eVar 3) (aCons (eFn (fnN_lent n) (aCons (eVar 0) (aCons (eVar 1) (aCons (eVar 4) (aNil))))) (aNil)))) := ⟨_, rfl⟩
      have lp : ∀ (ws : List Str) (m : Int) (e4 : EV), ws.foldl (fun acc one => acc.bind fun m => (lentS A R n one).map fun v => if v > m then v else m) (some m) = some r → ∃ e4', forD B (bName 4) (ws.map .str) [.f (.obj b), .f (.obj d), .f (.str x), .f (.int m), e4] S = .ok (.nx [.f (.obj b), .f (.obj d), .f (.str x), .f (.int r), e4']) S := by
        intro ws
        induction ws with
        | nil => intro m e4 hm; cases hm; exact ⟨e4, rfl⟩
        | cons y ws ihw =>
          intro m e4 hm
          rw [List.foldl_cons] at hm
          cases cy : lentS A R n y with
          | none =>
            have hm : ws.foldl (fun acc one => acc.bind fun m => (lentS A R n one).map fun v => if v > m then v else m) ((lentS A R n y).map fun v => if v > m then v else m) = some r := hm
            rw [cy] at hm
            rw [show (none : Option Int).map (fun v => if v > m then v else m) = none from rfl, fold_none _ (fun _ => rfl)] at hm
            cases hm
          | some v =>
            have hm : ws.foldl (fun acc one => acc.bind fun m => (lentS A R n one).map fun v => if v > m then v else m) ((lentS A R n y).map fun v => if v > m then v else m) = some r := hm
            rw [cy] at hm
            obtain ⟨e4', q⟩ := ihw (if v > m then v else m) (.f (.str y)) hm
            refine ⟨e4', ?_⟩
            have iy := ih y v cy
            have mx : maxO [.int m, .int v] = some (.int (if v > m then v else m)) := rfl
            have st : B [.f (.obj b), .f (.obj d), .f (.str x), .f (.int m), .f (.str y)] S = .ok (.nx [.f (.obj b), .f (.obj d), .f (.str x), .f (.int (if v > m then v else m)), .f (.str y)]) S := by
              rw [hB]
              clear ihw q hm ih wt e i hd hR hw hB gx
              generalize (if v > m then v else m) = z at *
              generalize fnN_lent n = self at *
              generalize hmo : maxO = mo at *
              clear hmo
              walk_at "ev*"
            rw [List.map_cons, forD_nx (show bName 4 (.str y) _ = some [.f (.obj b), .f (.obj d), .f (.str x), .f (.int m), .f (.str y)] from rfl) st]
            exact q
      obtain ⟨e4', q⟩ := lp (wtrs A x) r0 .u e
      rw [← hB]
      clear lp hB ih e i hR hw c
      generalize (wtrs A x).map D.str = ws at *
      walk_at "ev*"
end

/-! ### ranks lent: who waits for whom, ends -/
/-- a task's own locks are those that it holds -/
def Ho (A : LK) : Prop := ∀ k x, k ∈ (A.O x).getD [] ↔ A.H k = some x
theorem Ho.new : Ho LK.new := fun k x => ⟨fun h => (by cases h), fun h => (by cases h)⟩
theorem Ho.get {A : LK} (h : Ho A) {n k0 : Str} (c : A.H k0 = none) : Ho (A.get n k0) := by
  intro k x
  show k ∈ (upF A.O n (some ((A.O n).getD [] ++ [k0])) x).getD [] ↔ upF A.H k0 (some n) k = some x
  by_cases e : k = k0
  · subst e
    rw [upF_same]
    by_cases q : x = n
    · subst q; rw [upF_same]; simp
    · rw [upF_ne _ _ q, h k x, c]
      exact ⟨fun z => (by cases z), fun z => (by cases z; exact absurd rfl q)⟩
  · rw [upF_ne _ _ e]
    by_cases q : x = n
    · subst q
      rw [upF_same]
      show k ∈ (A.O x).getD [] ++ [k0] ↔ _
      rw [List.mem_append, h k x]
      exact ⟨fun z => z.elim id fun z => absurd (by simpa using z) e, .inl⟩
    · rw [upF_ne _ _ q]; exact h k x
theorem Ho.want {A : LK} (h : Ho A) {n k0 : Str} : Ho (A.want n k0) := h
theorem Ho.give0 {A : LK} (h : Ho A) {n k0 : Str} (c : A.H k0 = some n) : Ho (A.give0 n k0) := by
  intro k x
  show k ∈ (upF A.O n (some (((A.O n).getD []).filter fun t => !decide (t = k0))) x).getD [] ↔ upF A.H k0 none k = some x
  by_cases e : k = k0
  · subst e
    rw [upF_same]
    refine ⟨fun z => ?_, fun z => by cases z⟩
    by_cases q : x = n
    · subst q
      rw [upF_same] at z
      have z : k ∈ ((A.O x).getD []).filter fun t => !decide (t = k) := z
      have := (List.mem_filter.mp z).2
      simp at this
    · rw [upF_ne _ _ q, h k x, c] at z
      cases z
      exact absurd rfl q
  · rw [upF_ne _ _ e]
    by_cases q : x = n
    · subst q
      rw [upF_same]
      show k ∈ ((A.O x).getD []).filter (fun t => !decide (t = k0)) ↔ _
      rw [List.mem_filter, h k x]
      simp [e]
    · rw [upF_ne _ _ q]; exact h k x
theorem Ho.give1 {A : LK} (h : Ho A) {n k0 e : Str} (c : A.H k0 = some n) : Ho (A.give1 n k0 e) :=
  (h.give0 c).get (n := e) (k0 := k0) (upF_same _ _ _)
theorem mem_wtrs {A : LK} (g : Gd A) (h : Ho A) {x y : Str} : y ∈ wtrs A x ↔ A.arrow y = some x := by
  unfold wtrs LK.arrow
  rw [List.mem_flatMap]
  constructor
  · rintro ⟨k, h1, h2⟩
    rw [g.w k y h2]
    exact (h k x).mp h1
  · intro e
    cases q : A.W y with
    | none => rw [q] at e; cases e
    | some k =>
      rw [q] at e
      exact ⟨k, (h k x).mpr e, g.v y k q⟩
/-- all tasks that wait have a rank; ranks of the row's tasks are there: then the lent rank is there, by as much fuel as the place in the order asks for -/
theorem fold_some {A : LK} {R : Str → Option Int} {n : Nat} : ∀ (ws : List Str) (m : Int), (∀ y ∈ ws, ∃ v, lentS A R n y = some v) → ∃ r, ws.foldl (fun acc one => acc.bind fun m => (lentS A R n one).map fun v => if v > m then v else m) (some m) = some r ∧ m ≤ r ∧ (∀ y ∈ ws, ∀ v, lentS A R n y = some v → v ≤ r) ∧ (r = m ∨ ∃ y ∈ ws, lentS A R n y = some r)
  | [], m, _ => ⟨m, rfl, Int.le_refl _, (fun y h => by cases h), .inl rfl⟩
  | y :: ws, m, h => by
    obtain ⟨v, hv⟩ := h y List.mem_cons_self
    obtain ⟨r, h1, h2, h3, h4⟩ := fold_some (A := A) (R := R) (n := n) ws (if v > m then v else m) (fun z hz => h z (List.mem_cons_of_mem _ hz))
    have hm : m ≤ (if v > m then v else m) ∧ v ≤ (if v > m then v else m) := by split <;> omega
    refine ⟨r, ?_, by omega, fun z hz u hu => ?_, ?_⟩
    · rw [List.foldl_cons]
      show ws.foldl _ ((lentS A R n y).map fun v => if v > m then v else m) = some r
      rw [hv]; exact h1
    · rcases List.mem_cons.mp hz with rfl | hz
      · rw [hv] at hu; cases hu; omega
      · exact h3 z hz u hu
    · rcases h4 with h4 | ⟨z, hz, hu⟩
      · by_cases c : v > m
        · rw [if_pos c] at h4
          exact .inr ⟨y, List.mem_cons_self, by rw [h4]; exact hv⟩
        · rw [if_neg c] at h4; exact .inl h4
      · exact .inr ⟨z, List.mem_cons_of_mem _ hz, hu⟩
/-- what the lent rank is -/
structure LentIs (A : LK) (R : Str → Option Int) (n : Nat) (x : Str) (r : Int) : Prop where
  eq : lentS A R (n + 1) x = some r
  own : ∃ r0, R x = some r0 ∧ r0 ≤ r ∧ (r = r0 ∨ ∃ y ∈ wtrs A x, lentS A R n y = some r)
  all : ∀ y ∈ wtrs A x, ∀ v, lentS A R n y = some v → v ≤ r
theorem lent_step {A : LK} {R : Str → Option Int} {n : Nat} {x : Str} {r0 : Int} (hx : R x = some r0) (h : ∀ y ∈ wtrs A x, ∃ v, lentS A R n y = some v) : ∃ r, LentIs A R n x r := by
  obtain ⟨r, h1, h2, h3, h4⟩ := fold_some (A := A) (R := R) (n := n) (wtrs A x) r0 h
  refine ⟨r, ⟨?_, ⟨r0, hx, h2, h4⟩, h3⟩⟩
  unfold lentS
  rw [hx]
  exact h1
/-- the lent ranks are there where there are no rings: by as much fuel as the waits are deep -/
theorem lent_ends {A : LK} (g : Gd A) (h : Ho A) {R : Str → Option Int} {rk : Str → Nat} (hrk : ∀ a b, A.arrow a = some b → rk a < rk b) : ∀ (n : Nat) (x : Str), rk x < n → (R x).isSome = true → (∀ y, (∃ z, A.arrow y = some z) → (R y).isSome = true) → ∃ r, lentS A R n x = some r
  | 0, x, hn, _, _ => by omega
  | n + 1, x, hn, hx, hR => by
    cases e : R x with
    | none => rw [e] at hx; cases hx
    | some r0 =>
      obtain ⟨r, hr⟩ := lent_step (n := n) e (fun y hy => by
        have ar := (mem_wtrs g h).mp hy
        have := hrk y x ar
        exact lent_ends g h hrk n y (by omega) (hR y ⟨x, ar⟩) hR)
      exact ⟨r, hr.eq⟩
/-- more fuel tells the same -/
theorem fold_same {f f' : Str → Option Int} : ∀ (ws : List Str) (m r : Int), (∀ y ∈ ws, ∀ v, f y = some v → f' y = some v) → ws.foldl (fun acc one => acc.bind fun m => (f one).map fun v => if v > m then v else m) (some m) = some r → ws.foldl (fun acc one => acc.bind fun m => (f' one).map fun v => if v > m then v else m) (some m) = some r
  | [], m, r, _, h => h
  | y :: ws, m, r, hs, h => by
    rw [List.foldl_cons] at h ⊢
    have h : ws.foldl (fun acc one => acc.bind fun m => (f one).map fun v => if v > m then v else m) ((f y).map fun v => if v > m then v else m) = some r := h
    show ws.foldl (fun acc one => acc.bind fun m => (f' one).map fun v => if v > m then v else m) ((f' y).map fun v => if v > m then v else m) = some r
    cases e : f y with
    | none =>
      rw [e, show (none : Option Int).map (fun v => if v > m then v else m) = none from rfl, fold_none _ (fun _ => rfl)] at h
      cases h
    | some v =>
      rw [e] at h
      rw [hs y List.mem_cons_self v e]
      exact fold_same ws _ r (fun z hz => hs z (List.mem_cons_of_mem _ hz)) h
theorem lent_mono {A : LK} {R : Str → Option Int} : ∀ (n : Nat) (x : Str) (r : Int), lentS A R n x = some r → lentS A R (n + 1) x = some r
  | 0, x, r, h => by cases h
  | n + 1, x, r, h => by
    unfold lentS at h ⊢
    cases e : R x with
    | none => rw [e] at h; cases h
    | some r0 =>
      rw [e] at h
      exact fold_same (wtrs A x) r0 r (fun y _ v hv => lent_mono n y v hv) h
theorem lent_le {A : LK} {R : Str → Option Int} {n m : Nat} (h : n ≤ m) {x : Str} {r : Int} (e : lentS A R n x = some r) : lentS A R m x = some r := by
  induction h with
  | refl => exact e
  | step _ ih => exact lent_mono _ _ _ ih

/-! ### how deep waits are -/
theorem flt_le {α : Type} {p q : α → Bool} : ∀ (l : List α), (∀ x ∈ l, p x = true → q x = true) → (l.filter p).length ≤ (l.filter q).length
  | [], _ => Nat.le_refl _
  | x :: l, h => by
    have ih := flt_le l fun y hy => h y (List.mem_cons_of_mem _ hy)
    rw [List.filter_cons, List.filter_cons]
    by_cases c : p x = true
    · rw [if_pos c, if_pos (h x List.mem_cons_self c)]
      simp only [List.length_cons]; omega
    · rw [if_neg c]
      split
      · simp only [List.length_cons]; omega
      · exact ih
theorem flt_lt {α : Type} {p q : α → Bool} {a : α} (hq : q a = true) (hp : p a ≠ true) : ∀ (l : List α), a ∈ l → (∀ x ∈ l, p x = true → q x = true) → (l.filter p).length < (l.filter q).length
  | [], ha, _ => by cases ha
  | x :: l, ha, h => by
    have hl := fun y hy => h y (List.mem_cons_of_mem x hy)
    rw [List.filter_cons, List.filter_cons]
    rcases List.mem_cons.mp ha with rfl | ha
    · rw [if_neg hp, if_pos hq]
      have := flt_le l hl
      simp only [List.length_cons]; omega
    · have ih := flt_lt hq hp l ha hl
      by_cases c : p x = true
      · rw [if_pos c, if_pos (h x List.mem_cons_self c)]
        simp only [List.length_cons]; omega
      · rw [if_neg c]
        split
        · simp only [List.length_cons]; omega
        · exact ih
theorem Rch.snoc {A : LK} {x y z : Str} (r : Rch A x y) (e : A.arrow y = some z) : Rch A x z := by
  induction r with
  | rfl a => exact .step e (.rfl z)
  | step e1 _ ih => exact .step e1 (ih e)
theorem Rch.rk {A : LK} {rk : Str → Nat} (hrk : ∀ a b, A.arrow a = some b → rk b < rk a) {x y : Str} (r : Rch A x y) : rk y ≤ rk x := by
  induction r with
  | rfl a => exact Nat.le_refl _
  | step e _ ih => have := hrk _ _ e; omega
open Classical in
theorem deep_rank {A : LK} (h : Acyc A) {T : List Str} (hT : Wn A T) : ∃ rk : Str → Nat, (∀ a b, A.arrow a = some b → rk a < rk b) ∧ ∀ x, rk x ≤ T.length := by
  obtain ⟨r0, h0⟩ := h
  refine ⟨fun x => (T.filter fun t => decide (∃ y, A.arrow t = some y ∧ Rch A y x)).length, fun a b e => ?_, fun x => List.length_filter_le _ _⟩
  have aT : a ∈ T := hT a (by
    unfold LK.arrow at e
    cases q : A.W a with
    | none => rw [q] at e; cases e
    | some _ => rfl)
  refine flt_lt (a := a) (decide_eq_true ⟨b, e, .rfl b⟩) (fun z => ?_) T aT fun t _ ht => ?_
  · obtain ⟨y, e1, r1⟩ := of_decide_eq_true z
    have k1 := h0 _ _ e1
    have k2 := Rch.rk h0 r1
    omega
  · obtain ⟨y, e1, r1⟩ := of_decide_eq_true ht
    exact decide_eq_true ⟨y, e1, r1.snoc e⟩
/-- the lent ranks of all tasks are there -/
theorem lent_all {A : LK} (g : Gd A) (h : Ho A) (ac : Acyc A) {T : List Str} (hT : Wn A T) (hl : T.length ≤ 69) {R : Str → Option Int} (hR : ∀ y, (∃ z, A.arrow y = some z) → (R y).isSome = true) : ∀ y, (R y).isSome = true → lentS A R 70 y = some ((lentS A R 70 y).getD 0) := fun y hy => by
  obtain ⟨rk, h1, h2⟩ := deep_rank ac hT
  obtain ⟨r, e⟩ := lent_ends g h h1 70 y (by have := h2 y; omega) hy hR
  rw [e]; rfl
/-- one step: the lent rank is the greatest of the own one and of those lent to whoever waits -/
theorem lent_fix {A : LK} (g : Gd A) (h : Ho A) (ac : Acyc A) {T : List Str} (hT : Wn A T) (hl : T.length ≤ 69) {R : Str → Option Int} (hR : ∀ y, (∃ z, A.arrow y = some z) → (R y).isSome = true) {x : Str} {r0 : Int} (hx : R x = some r0) :
    r0 ≤ (lentS A R 70 x).getD 0 ∧ (∀ y, A.arrow y = some x → (lentS A R 70 y).getD 0 ≤ (lentS A R 70 x).getD 0) ∧ ((lentS A R 70 x).getD 0 = r0 ∨ ∃ y, A.arrow y = some x ∧ (lentS A R 70 y).getD 0 = (lentS A R 70 x).getD 0) := by
  obtain ⟨rk, h1, h2⟩ := deep_rank ac hT
  have all : ∀ y, y ∈ wtrs A x → ∃ v, lentS A R 69 y = some v := fun y hy => by
    have ar := (mem_wtrs g h).mp hy
    have k1 := h1 y x ar
    have k2 := h2 x
    exact lent_ends g h h1 69 y (by omega) (hR y ⟨x, ar⟩) hR
  obtain ⟨r, hr⟩ := lent_step (n := 69) hx all
  have e : lentS A R 70 x = some r := hr.eq
  obtain ⟨r1, q1, q2, q3⟩ := hr.own
  rw [hx] at q1
  cases q1
  have same : ∀ y, y ∈ wtrs A x → ∀ v, lentS A R 69 y = some v → (lentS A R 70 y).getD 0 = v := fun y _ v hv => by rw [lent_mono 69 y v hv]; rfl
  rw [e]
  refine ⟨q2, fun y hy => ?_, ?_⟩
  · have my := (mem_wtrs g h).mpr hy
    obtain ⟨v, hv⟩ := all y my
    rw [same y my v hv]
    exact hr.all y my v hv
  · rcases q3 with q3 | ⟨y, hy, hv⟩
    · exact .inl q3
    · exact .inr ⟨y, (mem_wtrs g h).mp hy, same y hy r hv⟩

/-! ### the law's rounds -/
def rlx1 (ar : Str → Option Str) (B : Str → Int) (y : Str) : Str → Int := match ar y with
  | some z => fun t => if t = z then (if B y > B z then B y else B z) else B t
  | none => B
def rlx (ar : Str → Option Str) (B : Str → Int) (ys : List Str) : Str → Int := ys.foldl (rlx1 ar) B
theorem rlx1_ge (ar : Str → Option Str) (B : Str → Int) (y x : Str) : B x ≤ rlx1 ar B y x := by
  unfold rlx1
  cases ar y with
  | none => exact Int.le_refl _
  | some z =>
    show B x ≤ (if x = z then _ else B x)
    by_cases c : x = z
    · subst c; rw [if_pos rfl]; split <;> omega
    · rw [if_neg c]; exact Int.le_refl _
theorem rlx_ge (ar : Str → Option Str) : ∀ (ys : List Str) (B : Str → Int) (x : Str), B x ≤ rlx ar B ys x
  | [], _, _ => Int.le_refl _
  | y :: ys, B, x => Int.le_trans (rlx1_ge ar B y x) (rlx_ge ar ys (rlx1 ar B y) x)
theorem rlx1_le {ar : Str → Option Str} {B L : Str → Int} (hB : ∀ x, B x ≤ L x) (hL : ∀ y z, ar y = some z → L y ≤ L z) (y x : Str) : rlx1 ar B y x ≤ L x := by
  unfold rlx1
  cases e : ar y with
  | none => exact hB x
  | some z =>
    show (if x = z then _ else B x) ≤ L x
    by_cases c : x = z
    · subst c
      rw [if_pos rfl]
      have := hL y x e
      have := hB y
      have := hB x
      split <;> omega
    · rw [if_neg c]; exact hB x
theorem rlx_le {ar : Str → Option Str} {L : Str → Int} (hL : ∀ y z, ar y = some z → L y ≤ L z) : ∀ (ys : List Str) (B : Str → Int), (∀ x, B x ≤ L x) → ∀ x, rlx ar B ys x ≤ L x
  | [], _, hB => hB
  | y :: ys, B, hB => rlx_le hL ys (rlx1 ar B y) (rlx1_le hB hL y)
theorem rlx_hit {ar : Str → Option Str} {y z : Str} (e : ar y = some z) : ∀ (ys : List Str) (B : Str → Int), y ∈ ys → B y ≤ rlx ar B ys z
  | [], _, h => by cases h
  | u :: ys, B, h => by
    show B y ≤ rlx ar (rlx1 ar B u) ys z
    rcases List.mem_cons.mp h with rfl | h
    · refine Int.le_trans ?_ (rlx_ge ar ys _ z)
      unfold rlx1
      rw [e]
      show B y ≤ (if z = z then _ else B z)
      rw [if_pos rfl]
      split <;> omega
    · exact Int.le_trans (rlx1_ge ar B u y) (rlx_hit e ys (rlx1 ar B u) h)
def rounds (ar : Str → Option Str) (ys : List Str) : Nat → (Str → Int) → Str → Int
  | 0, B => B
  | n + 1, B => rounds ar ys n (rlx ar B ys)
theorem rounds_is {ar : Str → Option Str} {L R : Str → Int} {rk : Str → Nat} {P : Str → Prop} (hrk : ∀ a b, ar a = some b → rk a < rk b) (hL : ∀ y z, ar y = some z → L y ≤ L z) {ys : List Str} (hys : ∀ y z, ar y = some z → y ∈ ys) (hP : ∀ y z, ar y = some z → P y)
    (fix : ∀ x, P x → L x = R x ∨ ∃ y, ar y = some x ∧ L y = L x) : ∀ (n p : Nat) (B : Str → Int), (∀ x, B x ≤ L x) → (∀ x, P x → R x ≤ B x) → (∀ x, P x → rk x < p → B x = L x) → ∀ x, P x → rk x < p + n → rounds ar ys n B x = L x
  | 0, p, B, _, _, h3, x, hx, hr => h3 x hx hr
  | n + 1, p, B, h1, h2, h3, x, hx, hr => by
    show rounds ar ys n (rlx ar B ys) x = L x
    refine rounds_is hrk hL hys hP fix n (p + 1) (rlx ar B ys) (rlx_le hL ys B h1) (fun y hy => Int.le_trans (h2 y hy) (rlx_ge ar ys B y)) (fun y hy hry => ?_) x hx (by omega)
    have up := rlx_le hL ys B h1 y
    rcases fix y hy with e | ⟨u, e1, e2⟩
    · have := h2 y hy
      have := rlx_ge ar ys B y
      omega
    · have lu := hrk u y e1
      have bu := h3 u (hP u y e1) (by omega)
      have hit := rlx_hit e1 ys B (hys u y e1)
      omega

/-! ### the law's rounds, walked: one step, one round -/
theorem lent_b3 {T : Store} {h l o w n2 d : Nat} {wk kh bk : List (Key × D)} {y k0 z : Str} {By Bz : Int} (hTw : T[w]? = some (rF wk)) (hTh : T[h]? = some (rK kh)) (hTn : T[n2]? = some (rK bk)) (e1 : getK wk (.inr y) = some (.str k0)) (e2 : getK kh (.inr k0) = some (.str z)) (e3 : getK bk (.inr y) = some (.int By)) (e4 : getK bk (.inr z) = some (.int Bz)) (kl : bk.length ≤ 1000) (x3 x5 : EV) :
    dn_law_lent_b3 [.f (stK h l o w), .f (.obj d), .f (.obj n2), x3, .f (.str y), x5] T = .ok (.nx [.f (stK h l o w), .f (.obj d), .f (.obj n2), x3, .f (.str y), .f (.str z)]) (T.set n2 (rK (putD bk (.inr z) (.int (if By > Bz then By else Bz))))) := by
  have gh := stK_h h l o w
  have gw := stK_w h l o w
  have ll : (bk.length < lim) = True := eq_true (by unfold lim; omega)
  have mx : maxO [.int Bz, .int By] = some (.int (if By > Bz then By else Bz)) := rfl
  generalize (if By > Bz then By else Bz) = v at *
  generalize stK h l o w = st at *
  have s1 : dn_law_lent_s1 [.f st, .f (.obj d), .f (.obj n2), x3, .f (.str y), x5] T = .ok (.nx [.f st, .f (.obj d), .f (.obj n2), x3, .f (.str y), .f (.str z)]) T := by
    clear hTn e3 e4 mx ll
    walk_at "go*"
  rw [dn_law_lent_b3_S, sCons_nx' s1, dn_law_lent_s2_S]
  clear s1 hTw hTh e1 e2 gh gw
  generalize hmo : maxO = mo at *
  clear hmo
  walk_at "ev*"

/-! ### one round -/
theorem putD_keep {kvs : List (Key × D)} {k : Key} (v : D) (h : (getK kvs k).isSome = true) : (putD kvs k v).length = kvs.length := by
  unfold putD
  rw [getK_any, if_pos h, List.length_map]
theorem lent_round {h l o w n2 d : Nat} {wk kh : List (Key × D)} {A : LK} {R : Str → Option Int} (ww : ∀ n, getK wk (.inr n) = vS (A.W n)) (wh : ∀ n, getK kh (.inr n) = vS (A.H n)) (n1 : n2 ≠ w) (n3 : n2 ≠ h) (x3 : EV) :
    ∀ (ys : List Str) (T : Store) (bk : List (Key × D)) (B : Str → Int) (x4 x5 : EV), T[w]? = some (rF wk) → T[h]? = some (rK kh) → T[n2]? = some (rK bk) → bk.length ≤ 1000 → (∀ y, getK bk (.inr y) = (R y).map fun _ => .int (B y)) → (∀ y ∈ ys, ∃ k0 z, A.W y = some k0 ∧ A.H k0 = some z ∧ (R y).isSome = true ∧ (R z).isSome = true) →
    ∃ bk' y4 y5, forD dn_law_lent_b3 (bName 4) (ys.map .str) [.f (stK h l o w), .f (.obj d), .f (.obj n2), x3, x4, x5] T = .ok (.nx [.f (stK h l o w), .f (.obj d), .f (.obj n2), x3, y4, y5]) (T.set n2 (rK bk')) ∧ bk'.length ≤ 1000 ∧ ∀ y, getK bk' (.inr y) = (R y).map fun _ => .int (rlx A.arrow B ys y)
  | [], T, bk, B, x4, x5, h1, h2, h3, h4, h5, _ => ⟨bk, x4, x5, by rw [set_same h3]; rfl, h4, h5⟩
  | y :: ys, T, bk, B, x4, x5, h1, h2, h3, h4, h5, h6 => by
    obtain ⟨k0, z, a1, a2, a3, a4⟩ := h6 y List.mem_cons_self
    have e1 : getK wk (.inr y) = some (.str k0) := by rw [ww, a1]; rfl
    have e2 : getK kh (.inr k0) = some (.str z) := by rw [wh, a2]; rfl
    have e3 : getK bk (.inr y) = some (.int (B y)) := by
      rw [h5]
      cases c : R y with
      | none => rw [c] at a3; cases a3
      | some _ => rfl
    have e4 : getK bk (.inr z) = some (.int (B z)) := by
      rw [h5]
      cases c : R z with
      | none => rw [c] at a4; cases a4
      | some _ => rfl
    have st := lent_b3 (l := l) (o := o) (d := d) h1 h2 h3 e1 e2 e3 e4 h4 x3 x5
    have ar : A.arrow y = some z := by unfold LK.arrow; rw [a1]; exact a2
    obtain ⟨bk', y4, y5, q1, q2, q3⟩ := lent_round ww wh n1 n3 x3 ys (T.set n2 (rK (putD bk (.inr z) (.int (if B y > B z then B y else B z))))) (putD bk (.inr z) (.int (if B y > B z then B y else B z))) (rlx1 A.arrow B y) (.f (.str y)) (.f (.str z)) (by rw [set_get_ne n1]; exact h1) (by rw [set_get_ne n3]; exact h2) (set_get h3) (by rw [putD_keep _ (by rw [e4]; rfl)]; exact h4) (fun t => by
      rw [getK_put]
      unfold rlx1
      rw [ar]
      show _ = (R t).map fun _ => D.int (if t = z then (if B y > B z then B y else B z) else B t)
      by_cases c : t = z
      · subst c
        rw [if_pos rfl]
        cases q : R t with
        | none => rw [q] at a4; cases a4
        | some _ => show _ = some (D.int (if t = t then _ else B t)); rw [if_pos rfl]
      · rw [if_neg (by simpa using c), h5]
        cases q : R t with
        | none => rfl
        | some _ => show some (D.int (B t)) = some (D.int (if t = z then _ else B t)); rw [if_neg c]) (fun u hu => h6 u (List.mem_cons_of_mem _ hu))
    refine ⟨bk', y4, y5, ?_, q2, q3⟩
    rw [List.map_cons, forD_nx (show bName 4 (.str y) [.f (stK h l o w), .f (.obj d), .f (.obj n2), x3, x4, x5] = some [.f (stK h l o w), .f (.obj d), .f (.obj n2), x3, .f (.str y), x5] from rfl) st, q1, set_set]

/-! ### the rounds, in the store -/
theorem keys_T {wk : List (Key × D)} (h : ∀ kv ∈ wk, ∃ s, kv.1 = .inr s) : (wk.map fun kv => keyV kv.1) = (wk.map keyT).map D.str := by
  rw [List.map_map]
  refine List.map_congr_left fun kv hkv => ?_
  obtain ⟨s, hs⟩ := h kv hkv
  show keyV kv.1 = D.str (keyT kv)
  unfold keyT
  rw [hs]; rfl
theorem sLk_S {fo : En → M D} {fs : En → M Fl} {env env' : En} {S S1 S2 : Store} {n : Nat} {kvs kvs2 : List (Key × D)} (h1 : fo env S = .ok (.obj n) S1) (h2 : S[n]? = some (rK kvs)) (h3 : fs env (S.set n (rF kvs)) = .ok (.nx env') S2) (h4 : S2[n]? = some (rF kvs2)) : sLk fo fs env S = .ok (.nx env') (S2.set n (rK kvs2)) := by
  unfold sLk
  refine eLk_S h1 h2 ?_ h4
  unfold M.bind
  rw [h3]
  rfl
theorem lent_s5 {h l o w n2 d : Nat} {wk kh : List (Key × D)} {A : LK} {R : Str → Option Int} (ww : ∀ n, getK wk (.inr n) = vS (A.W n)) (wh : ∀ n, getK kh (.inr n) = vS (A.H n)) (kt : ∀ kv ∈ wk, ∃ s, kv.1 = .inr s) (n1 : n2 ≠ w) (n3 : n2 ≠ h) (n4 : w ≠ h)
    (good : ∀ y ∈ wk.map keyT, ∃ k0 z, A.W y = some k0 ∧ A.H k0 = some z ∧ (R y).isSome = true ∧ (R z).isSome = true) (x3 x4 x5 : EV) (T : Store) (bk : List (Key × D)) (B : Str → Int) (h1 : T[w]? = some (rK wk)) (h2 : T[h]? = some (rK kh)) (h3 : T[n2]? = some (rK bk)) (h4 : bk.length ≤ 1000) (h5 : ∀ y, getK bk (.inr y) = (R y).map fun _ => .int (B y)) :
    ∃ bk' y4 y5, dn_law_lent_s5 [.f (stK h l o w), .f (.obj d), .f (.obj n2), x3, x4, x5] T = .ok (.nx [.f (stK h l o w), .f (.obj d), .f (.obj n2), x3, y4, y5]) (T.set n2 (rK bk')) ∧ bk'.length ≤ 1000 ∧ ∀ y, getK bk' (.inr y) = (R y).map fun _ => .int (rlx A.arrow B (wk.map keyT) y) := by
  have k1 : (T.set w (rF wk))[w]? = some (rF wk) := set_get h1
  obtain ⟨bk', y4, y5, q1, q2, q3⟩ := lent_round (l := l) (o := o) (d := d) ww wh n1 n3 x3 (wk.map keyT) (T.set w (rF wk)) bk B x4 x5 k1 (by rw [set_get_ne n4]; exact h2) (by rw [set_get_ne (Ne.symm n1)]; exact h3) h4 h5 good
  refine ⟨bk', y4, y5, ?_, q2, q3⟩
  have gw := stK_w h l o w
  have fo : eBin dgetD (eVar 0) (eC (.str (Str.ofString "want"))) [.f (stK h l o w), .f (.obj d), .f (.obj n2), x3, x4, x5] T = .ok (.obj w) T := by
    clear q1 k1
    generalize stK h l o w = st at *
    walk_at "ev*"
  have ke := keys_T kt
  have s4 : dn_law_lent_s4 [.f (stK h l o w), .f (.obj d), .f (.obj n2), x3, x4, x5] (T.set w (rF wk)) = .ok (.nx [.f (stK h l o w), .f (.obj d), .f (.obj n2), x3, y4, y5]) ((T.set w (rF wk)).set n2 (rK bk')) := by
    rw [dn_law_lent_s4_S]
    rw [← ke] at q1
    clear fo ww wh good h1 h2 h3 h5 q3 kt ke
    generalize dn_law_lent_b3 = b3 at *
    generalize T.set w (rF wk) = U at *
    generalize stK h l o w = st at *
    walk_at "ev*"
  have h4' : ((T.set w (rF wk)).set n2 (rK bk'))[w]? = some (rF wk) := by rw [set_get_ne n1]; exact k1
  have lk := sLk_S fo h1 s4 h4'
  rw [dn_law_lent_s5_S]
  refine lk.trans ?_
  congr 1
  have hz : (T.set n2 (rK bk'))[w]? = some (rK wk) := by rw [set_get_ne n1]; exact h1
  rw [List.set_comm (rF wk) (rK bk') (Ne.symm n1), set_set, set_same hz]

/-! ### deeds at locks (printed by mkT.py from earlier texts of mine) -/
inductive Dd where
  | get (n k : Str) | want (n k : Str) | give (n k : Str) (e : Option Str)
def ddD : Dd → D
  | .get n k => .tup [.str (Str.ofString "get"), .str n, .str k]
  | .want n k => .tup [.str (Str.ofString "want"), .str n, .str k]
  | .give n k e => .tup [.str (Str.ofString "give"), .str n, .str k, sD e]
def LK.due (A : LK) : Dd → Str
  | .get n k => if (A.H k).isSome = true then "taken" else if (A.W n).isSome = true then "known" else ""
  | .want n k => if (A.H k).isSome = true then (if (A.W n).isSome = true then "known" else match chase A n 61 (A.H k) [n] with
    | some (some _) => "knot"
    | _ => "") else "free"
  | .give n k e => if A.H k = some n then (match e with
    | none => if (A.L k).getD [] = [] then "" else "unknown"
    | some e => if e ∈ (A.L k).getD [] then "" else "unknown") else "strange"
def LK.move (A : LK) : Dd → LK
  | .get n k => A.get n k
  | .want n k => A.want n k
  | .give n k none => A.give0 n k
  | .give n k (some e) => A.give1 n k e
theorem ofS_ne {a b : String} (h : a ≠ b) : (Str.ofString a = Str.ofString b) = False := by rw [ofString_inj]; exact eq_false h
theorem nek {s : String} (h : s ≠ "") : ¬ (Str.ofString s = Str.ofString "") := by rw [ofString_inj]; exact h
/-- the ways that a deed can be right -/
theorem due_nil {A : LK} : ∀ {d : Dd}, A.due d = Str.ofString "" → (∃ n k, d = .get n k ∧ A.H k = none ∧ A.W n = none) ∨ (∃ n k, d = .want n k ∧ (A.H k).isSome = true ∧ A.W n = none ∧ ∀ way, chase A n 61 (A.H k) [n] ≠ some (some way)) ∨
    (∃ n k, d = .give n k none ∧ A.H k = some n ∧ (A.L k).getD [] = []) ∨ ∃ n k e, d = .give n k (some e) ∧ A.H k = some n ∧ e ∈ (A.L k).getD []
  | .get n k, h => by
    left
    unfold LK.due at h
    dsimp only at h
    by_cases c1 : (A.H k).isSome = true
    · rw [if_pos c1] at h; exact absurd h (nek (by decide))
    · rw [if_neg c1] at h
      by_cases c2 : (A.W n).isSome = true
      · rw [if_pos c2] at h; exact absurd h (nek (by decide))
      · exact ⟨n, k, rfl, by simpa using c1, by simpa using c2⟩
  | .want n k, h => by
    right; left
    unfold LK.due at h
    dsimp only at h
    by_cases c1 : (A.H k).isSome = true
    · rw [if_pos c1] at h
      by_cases c2 : (A.W n).isSome = true
      · rw [if_pos c2] at h; exact absurd h (nek (by decide))
      · rw [if_neg c2] at h
        refine ⟨n, k, rfl, c1, by simpa using c2, fun way e => ?_⟩
        rw [e] at h
        exact absurd h (nek (by decide))
    · rw [if_neg c1] at h; exact absurd h (nek (by decide))
  | .give n k none, h => by
    right; right; left
    unfold LK.due at h
    dsimp only at h
    by_cases c1 : A.H k = some n
    · rw [if_pos c1] at h
      by_cases c2 : (A.L k).getD [] = []
      · exact ⟨n, k, rfl, c1, c2⟩
      · rw [if_neg c2] at h; exact absurd h (nek (by decide))
    · rw [if_neg c1] at h; exact absurd h (nek (by decide))
  | .give n k (some e), h => by
    right; right; right
    unfold LK.due at h
    dsimp only at h
    by_cases c1 : A.H k = some n
    · rw [if_pos c1] at h
      by_cases c2 : e ∈ (A.L k).getD []
      · exact ⟨n, k, e, rfl, c1, c2⟩
      · rw [if_neg c2] at h; exact absurd h (nek (by decide))
    · rw [if_neg c1] at h; exact absurd h (nek (by decide))
theorem Gd.move {A : LK} (g : Gd A) {d : Dd} (h : A.due d = Str.ofString "") : Gd (A.move d) := by
  rcases due_nil h with ⟨n, k, rfl, c1, c2⟩ | ⟨n, k, rfl, c1, c2, c3⟩ | ⟨n, k, rfl, c1, c2⟩ | ⟨n, k, e, rfl, c1, c2⟩
  · exact g.get c1
  · exact g.want c1 c2
  · exact g.give0 c2
  · exact g.give1 c2
theorem Sz.move {A : LK} {M : Nat} (s : Sz A M) (d : Dd) : Sz (A.move d) (M + 1) := by
  have up : ∀ (f : Str → Option (List Str)) (k : Str) (xs : List Str), (∀ n, ((f n).getD []).length ≤ M) → xs.length ≤ M + 1 → ∀ n, ((upF f k (some xs) n).getD []).length ≤ M + 1 := fun f k xs h1 h2 n => by
    by_cases c : n = k
    · rw [c, upF_same]; exact h2
    · rw [upF_ne _ _ c]; have := h1 n; omega
  have fl : ∀ (xs : List Str) (p : Str → Bool), xs.length ≤ M → (xs.filter p).length ≤ M := fun xs p h => Nat.le_trans (List.length_filter_le _ _) h
  have ap : ∀ (xs : List Str) (y : Str), xs.length ≤ M → (xs ++ [y]).length ≤ M + 1 := fun xs y h => by simp; omega
  obtain ⟨s1, s2⟩ := s
  have le : ∀ (f : Str → Option (List Str)), (∀ n, ((f n).getD []).length ≤ M) → ∀ n, ((f n).getD []).length ≤ M + 1 := fun f h n => Nat.le_trans (h n) (Nat.le_succ _)
  match d with
  | .get n k => exact ⟨le _ s1, up _ _ _ s2 (ap _ _ (s2 n))⟩
  | .want n k => exact ⟨up _ _ _ s1 (ap _ _ (s1 k)), le _ s2⟩
  | .give n k none => exact ⟨le _ s1, up _ _ _ s2 (Nat.le_trans (fl _ _ (s2 n)) (Nat.le_succ _))⟩
  | .give n k (some e) =>
    refine ⟨up _ _ _ s1 (Nat.le_trans (fl _ _ (s1 k)) (Nat.le_succ _)), up _ _ _ ?_ (ap _ _ ?_)⟩
    · intro m
      show ((upF A.O n _ m).getD []).length ≤ M
      by_cases c : m = n
      · rw [c, upF_same]; exact fl _ _ (s2 n)
      · rw [upF_ne _ _ c]; exact s2 m
    · show ((upF A.O n _ e).getD []).length ≤ M
      by_cases c : e = n
      · rw [c, upF_same]; exact fl _ _ (s2 n)
      · rw [upF_ne _ _ c]; exact s2 e
def RingOk (A : LK) (d : Dd) : Prop := ∀ n k, d = .want n k → (A.H k).isSome = true → A.W n = none → ∃ r, chase A n 61 (A.H k) [n] = some r
section
variable {S : Store} {h l o w : Nat} {A : LK} {N : Nat} (t : Tabs S h l o w A N)
include t
theorem due_ok (s : Sz A 90000) (d : Dd) (hr : RingOk A d) : fn_law_due [stK h l o w, ddD d] S = .ok (.f (.str (A.due d))) S := by
  obtain ⟨kh, h1, h2, -⟩ := t.th
  obtain ⟨kl, l1, l2, -⟩ := t.tl
  obtain ⟨kw, w1, w2, -⟩ := t.tw
  have g1 := stK_h h l o w
  have g2 := stK_l h l o w
  have g4 := stK_w h l o w
  have m0 : ∀ s : Str, Txt.mul s 0 = Str.ofString "" := fun s => by unfold Txt.mul; rfl
  have m1 : ∀ s : Str, Txt.mul s 1 = s := fun s => by unfold Txt.mul; rfl
  have q2 : ((Str.ofString "known").length ≤ 16) = True := eq_true (by decide)
  have q3 : ((Str.ofString "knot").length ≤ 16) = True := eq_true (by decide)
  have q6 : ((Str.ofString "unknown").length ≤ 16) = True := eq_true (by decide)
  have u1 : ((-1000000 : Int) ≤ 0 ∧ (0 : Int) ≤ 1000000) = True := by decide
  have u2 : ((-1000000 : Int) ≤ 1 ∧ (1 : Int) ≤ 1000000) = True := by decide
  unfold fn_law_due dn_law_due
  match d, hr with
  | .get n k, hr =>
    have x0 : ixD (ddD (.get n k)) (.int 0) = some (.str (Str.ofString "get")) := rfl
    have x1 : ixD (ddD (.get n k)) (.int 1) = some (.str n) := rfl
    have x2 : ixD (ddD (.get n k)) (.int 2) = some (.str k) := rfl
    have e1 : getK kh (.inr k) = vS (A.H k) := h2 k
    have e2 := vS_getD (A.H k)
    have e3 : getK kl (.inr k) = vL (A.L k) := l2 k
    have e4 := vL_getD (A.L k)
    have e5 : getK kw (.inr n) = vS (A.W n) := w2 n
    have e6 := vS_isSome (A.W n)
    unfold LK.due
    dsimp only
    generalize ddD (.get n k) = dd at *
    generalize stK h l o w = st at *
    clear h2 l2 w2 t hr s
    cases hh : A.H k with
    | some m =>
      rw [hh] at e2
      replace e2 : (vS (some m)).getD .non = .str m := e2
      rw [hh] at e1
      clear hh
      walk_at "ev*"
    | none =>
      rw [hh] at e2
      replace e2 : (vS none).getD .non = .non := e2
      rw [hh] at e1
      clear hh
      cases hw : (A.W n).isSome with
      | true => rw [hw] at e6; walk_at "ev*"
      | false => rw [hw] at e6; walk_at "ev*"
  | .want n k, hr =>
    have x0 : ixD (ddD (.want n k)) (.int 0) = some (.str (Str.ofString "want")) := rfl
    have x1 : ixD (ddD (.want n k)) (.int 1) = some (.str n) := rfl
    have x2 : ixD (ddD (.want n k)) (.int 2) = some (.str k) := rfl
    have e1 : getK kh (.inr k) = vS (A.H k) := h2 k
    have e2 := vS_getD (A.H k)
    have e3 : getK kl (.inr k) = vL (A.L k) := l2 k
    have e4 := vL_getD (A.L k)
    have e5 : getK kw (.inr n) = vS (A.W n) := w2 n
    have e6 := vS_isSome (A.W n)
    unfold LK.due
    dsimp only
    have rg := fun r => lring_ok (r := r) t n k
    have hr := hr n k rfl
    generalize ddD (.want n k) = dd at *
    generalize stK h l o w = st at *
    clear h2 l2 w2 t s
    cases hh : A.H k with
    | none =>
      rw [hh] at e2
      replace e2 : (vS none).getD .non = .non := e2
      rw [hh] at e1
      clear hh hr rg
      walk_at "ev*"
    | some m =>
      have e7 : (vS (A.H k)).getD .non = .str m := by rw [e2, hh]; rfl
      have hr := hr (by rw [hh]; rfl)
      rw [hh] at hr rg e1 e7
      clear e2 hh
      cases hw : (A.W n).isSome with
      | true => rw [hw] at e6; clear hr rg; walk_at "ev*"
      | false =>
        rw [hw] at e6
        obtain ⟨r, hr⟩ := hr (by simpa using hw)
        have rg := rg r hr
        cases r with
        | none =>
          replace rg : fn_law_ring [st, .str n, .str k] S = .ok (.f .non) S := rg
          walk_at "ev*"
        | some way =>
          replace rg : fn_law_ring [st, .str n, .str k] S = .ok (.f (.lst (way.map .str))) S := rg
          walk_at "ev*"
  | .give n k e, hr =>
    have x0 : ixD (ddD (.give n k e)) (.int 0) = some (.str (Str.ofString "give")) := rfl
    have x1 : ixD (ddD (.give n k e)) (.int 1) = some (.str n) := rfl
    have x2 : ixD (ddD (.give n k e)) (.int 2) = some (.str k) := rfl
    have x3 : ixD (ddD (.give n k e)) (.int 3) = some (sD e) := rfl
    have e1 : getK kh (.inr k) = vS (A.H k) := h2 k
    have e2 := vS_getD (A.H k)
    have e3 : getK kl (.inr k) = vL (A.L k) := l2 k
    have e4 := vL_getD (A.L k)
    have ll : lenO [.lst (((A.L k).getD []).map D.str)] = some (.int ((A.L k).getD []).length) := by simp [lenO]
    unfold LK.due
    dsimp only
    generalize ddD (.give n k e) = dd at *
    generalize stK h l o w = st at *
    clear h2 l2 w2 t hr s
    by_cases c1 : A.H k = some n
    · have q : neD (sD (A.H k)) (.str n) = some false := by rw [c1]; show neD (.str n) (.str n) = _; rw [neD_str, decide_eq_true rfl]; rfl
      rw [if_pos c1]
      clear c1
      cases e with
      | none =>
        rw [show sD none = .non from rfl] at x3
        by_cases c2 : (A.L k).getD [] = []
        · have l3 : ((0 : Int) < (((A.L k).getD []).length : Int)) = False := eq_false (by rw [c2]; simp)
          rw [if_pos c2]
          clear c2
          walk_at "ev*"
        · have l3 : ((0 : Int) < (((A.L k).getD []).length : Int)) = True := eq_true (by have := List.length_pos_iff.mpr c2; omega)
          rw [if_neg c2]
          clear c2
          walk_at "ev*"
      | some e' =>
        rw [show sD (some e') = .str e' from rfl] at x3
        have l3 := ninD_strs e' ((A.L k).getD [])
        by_cases c2 : e' ∈ (A.L k).getD []
        · rw [decide_eq_true c2] at l3
          dsimp only
          rw [if_pos c2]
          clear c2
          walk_at "ev*"
        · rw [decide_eq_false c2] at l3
          dsimp only
          rw [if_neg c2]
          clear c2
          walk_at "ev*"
    · have q : neD (sD (A.H k)) (.str n) = some true := by
        cases hh : A.H k with
        | none => rfl
        | some m =>
          show neD (.str m) (.str n) = _
          rw [neD_str, decide_eq_false (fun z => c1 (by rw [hh, z]))]
          rfl
      rw [if_neg c1]
      clear c1
      walk_at "ev*"
end
theorem moved_ok {S : Store} {h l o w : Nat} {A : LK} {N : Nat} (t : Tabs S h l o w A N) (g : Gd A) (s : Sz A 90000) (hN : N ≤ 90000) (d : Dd) (hd : A.due d = Str.ofString "") :
    ∃ S', fn_law_moved [stK h l o w, ddD d] S = .ok (.f .non) S' ∧ Tabs S' h l o w (A.move d) (N + 4) ∧ Fr S S' h l o w := by
  have g1 := stK_h h l o w
  have g2 := stK_l h l o w
  have g3 := stK_o h l o w
  have g4 := stK_w h l o w
  have up : ∀ {S' A' N'}, Tabs S' h l o w A' N' → N' ≤ N + 4 → Tabs S' h l o w A' (N + 4) := fun t h => t.mono (fun _ _ => rfl) h
  unfold fn_law_moved dn_law_moved
  rcases due_nil hd with ⟨n, k, rfl, c1, c2⟩ | ⟨n, k, rfl, c1, c2, c3⟩ | ⟨n, k, rfl, c1, c2⟩ | ⟨n, k, e, rfl, c1, c2⟩
  · have x0 : ixD (ddD (.get n k)) (.int 0) = some (.str (Str.ofString "get")) := rfl
    have x1 : ixD (ddD (.get n k)) (.int 1) = some (.str n) := rfl
    have x2 : ixD (ddD (.get n k)) (.int 2) = some (.str k) := rfl
    obtain ⟨kh, h1, h2, h3, h3k⟩ := t.th
    have t1 := t.setH h1 h2 h3 h3k k n
    have r1 := Fr.set (S := S) (h := h) (l := l) (o := o) (w := w) h (rK (putD kh (.inr k) (.str n))) (.inl rfl)
    obtain ⟨S1, hS1⟩ : ∃ S1 : Store, S.set h (rK (putD kh (.inr k) (.str n))) = S1 := ⟨_, rfl⟩
    rw [hS1] at t1 r1
    obtain ⟨ko, o1, o2, o3, o3k⟩ := t1.to
    have t2 := t1.setO o1 o2 o3 o3k n ((A.O n).getD [] ++ [k])
    have r2 := Fr.set (S := S1) (h := h) (l := l) (o := o) (w := w) o (rK (putD ko (.inr n) (.lst (((A.O n).getD [] ++ [k]).map .str)))) (.inr (.inr (.inl rfl)))
    have f1 : (((A.O n).getD []) ++ [k]).map D.str = ((A.O n).getD []).map D.str ++ [.str k] := by rw [List.map_append]; rfl
    rw [f1] at t2 r2
    have e1 : getK ko (.inr n) = vL (A.O n) := o2 n
    have e2 := vL_getD (A.O n)
    have l1 : (kh.length < lim) = True := eq_true (by unfold lim; omega)
    have l2 : (ko.length < lim) = True := eq_true (by unfold lim; omega)
    have l3 : (((A.O n).getD []).length + 1 ≤ lim) = True := eq_true (by have := s.2 n; unfold lim; omega)
    refine ⟨_, ?_, up t2 (by omega), r1.trans r2⟩
    generalize ddD (.get n k) = dd at *
    generalize stK h l o w = st at *
    clear t t1 t2 r1 r2 h2 o2 g s hd c1 c2 f1
    walk_at "ev*"
  · have x0 : ixD (ddD (.want n k)) (.int 0) = some (.str (Str.ofString "want")) := rfl
    have x1 : ixD (ddD (.want n k)) (.int 1) = some (.str n) := rfl
    have x2 : ixD (ddD (.want n k)) (.int 2) = some (.str k) := rfl
    obtain ⟨kw, h1, h2, h3, h3k⟩ := t.tw
    have t1 := t.setW h1 h2 h3 h3k n k
    have r1 := Fr.set (S := S) (h := h) (l := l) (o := o) (w := w) w (rK (putD kw (.inr n) (.str k))) (.inr (.inr (.inr rfl)))
    obtain ⟨S1, hS1⟩ : ∃ S1 : Store, S.set w (rK (putD kw (.inr n) (.str k))) = S1 := ⟨_, rfl⟩
    rw [hS1] at t1 r1
    obtain ⟨kl, o1, o2, o3, o3k⟩ := t1.tl
    have t2 := t1.setL o1 o2 o3 o3k k ((A.L k).getD [] ++ [n])
    have r2 := Fr.set (S := S1) (h := h) (l := l) (o := o) (w := w) l (rK (putD kl (.inr k) (.lst (((A.L k).getD [] ++ [n]).map .str)))) (.inr (.inl rfl))
    have f1 : (((A.L k).getD []) ++ [n]).map D.str = ((A.L k).getD []).map D.str ++ [.str n] := by rw [List.map_append]; rfl
    rw [f1] at t2 r2
    have e1 : getK kl (.inr k) = vL (A.L k) := o2 k
    have e2 := vL_getD (A.L k)
    have l1 : (kw.length < lim) = True := eq_true (by unfold lim; omega)
    have l2 : (kl.length < lim) = True := eq_true (by unfold lim; omega)
    have l3 : (((A.L k).getD []).length + 1 ≤ lim) = True := eq_true (by have := s.1 k; unfold lim; omega)
    refine ⟨_, ?_, up t2 (by omega), r1.trans r2⟩
    generalize ddD (.want n k) = dd at *
    generalize stK h l o w = st at *
    clear t t1 t2 r1 r2 h2 o2 g s hd c1 c2 c3 f1
    walk_at "ev*"
  · have x0 : ixD (ddD (.give n k none)) (.int 0) = some (.str (Str.ofString "give")) := rfl
    have x1 : ixD (ddD (.give n k none)) (.int 1) = some (.str n) := rfl
    have x2 : ixD (ddD (.give n k none)) (.int 2) = some (.str k) := rfl
    have x3 : ixD (ddD (.give n k none)) (.int 3) = some .non := rfl
    obtain ⟨xs, hxs⟩ := Option.isSome_iff_exists.mp (g.o _ _ c1)
    obtain ⟨ko, o1, o2, o3, o3k⟩ := t.to
    have t1 := t.setO o1 o2 o3 o3k n (xs.filter fun t => !decide (t = k))
    have r1 := Fr.set (S := S) (h := h) (l := l) (o := o) (w := w) o (rK (putD ko (.inr n) (.lst ((xs.filter fun t => !decide (t = k)).map .str)))) (.inr (.inr (.inl rfl)))
    have e1 : getK ko (.inr n) = some (.lst (xs.map .str)) := by rw [o2 n]; show vL (A.O n) = _; rw [hxs]; rfl
    obtain ⟨S1, hS1⟩ : ∃ S1 : Store, S.set o (rK (putD ko (.inr n) (.lst ((xs.filter fun t => !decide (t = k)).map .str)))) = S1 := ⟨_, rfl⟩
    rw [hS1] at t1 r1
    obtain ⟨kh, h1, h2, h3, h3k⟩ := t1.th
    have e2 : getK kh (.inr k) = some (.str n) := by rw [h2 k]; show vS (A.H k) = _; rw [c1]; rfl
    have t2 := t1.dropH h1 h2 h3 h3k k
    have r2 := Fr.set (S := S1) (h := h) (l := l) (o := o) (w := w) h (rK (dropD kh (.inr k))) (.inl rfl)
    have hx : xs.length ≤ 90000 := by have := s.2 n; rw [hxs] at this; exact this
    have fl := fun (env : En) (S : Store) (hi : 4 < env.length) (hj : env[3]? = some (.f (.str k))) => flt_strs 4 3 xs k env S (by decide) hi hj (by omega)
    have l1 : (ko.length < lim) = True := eq_true (by unfold lim; omega)
    refine ⟨_, ?_, up (A' := A.move (.give n k none)) (N' := N + 1) ?_ (by omega), r1.trans r2⟩
    · generalize ddD (.give n k none) = dd at *
      generalize stK h l o w = st at *
      clear t t1 t2 r1 r2 h2 o2 g s hd c1 c2 hxs
      walk_at "ev*"
    · show Tabs _ h l o w (A.give0 n k) _
      unfold LK.give0
      rw [hxs]
      exact t2
  · have x0 : ixD (ddD (.give n k (some e))) (.int 0) = some (.str (Str.ofString "give")) := rfl
    have x1 : ixD (ddD (.give n k (some e))) (.int 1) = some (.str n) := rfl
    have x2 : ixD (ddD (.give n k (some e))) (.int 2) = some (.str k) := rfl
    have x3 : ixD (ddD (.give n k (some e))) (.int 3) = some (.str e) := rfl
    obtain ⟨xs, hxs⟩ := Option.isSome_iff_exists.mp (g.o _ _ c1)
    obtain ⟨ls, hls⟩ : ∃ ls, A.L k = some ls := by
      cases q : A.L k with
      | none => rw [q] at c2; cases c2
      | some ls => exact ⟨ls, rfl⟩
    have hwe := g.w _ _ c2
    obtain ⟨ko, o1, o2, o3, o3k⟩ := t.to
    have t1 := t.setO o1 o2 o3 o3k n (xs.filter fun t => !decide (t = k))
    have r1 := Fr.set (S := S) (h := h) (l := l) (o := o) (w := w) o (rK (putD ko (.inr n) (.lst ((xs.filter fun t => !decide (t = k)).map .str)))) (.inr (.inr (.inl rfl)))
    have e1 : getK ko (.inr n) = some (.lst (xs.map .str)) := by rw [o2 n]; show vL (A.O n) = _; rw [hxs]; rfl
    obtain ⟨S1, hS1⟩ : ∃ S1 : Store, S.set o (rK (putD ko (.inr n) (.lst ((xs.filter fun t => !decide (t = k)).map .str)))) = S1 := ⟨_, rfl⟩
    rw [hS1] at t1 r1
    obtain ⟨kh, h1, h2, h3, h3k⟩ := t1.th
    have e2 : getK kh (.inr k) = some (.str n) := by rw [h2 k]; show vS (A.H k) = _; rw [c1]; rfl
    have t2 := t1.dropH h1 h2 h3 h3k k
    have r2 := Fr.set (S := S1) (h := h) (l := l) (o := o) (w := w) h (rK (dropD kh (.inr k))) (.inl rfl)
    obtain ⟨S2, hS2⟩ : ∃ S2 : Store, S1.set h (rK (dropD kh (.inr k))) = S2 := ⟨_, rfl⟩
    rw [hS2] at t2 r2
    obtain ⟨kl, l1, l2, l3, l3k⟩ := t2.tl
    have e3 : getK kl (.inr k) = some (.lst (ls.map .str)) := by rw [l2 k]; show vL (A.L k) = _; rw [hls]; rfl
    have t3 := t2.setL l1 l2 l3 l3k k (ls.filter fun t => !decide (t = e))
    have r3 := Fr.set (S := S2) (h := h) (l := l) (o := o) (w := w) l (rK (putD kl (.inr k) (.lst ((ls.filter fun t => !decide (t = e)).map .str)))) (.inr (.inl rfl))
    obtain ⟨S3, hS3⟩ : ∃ S3 : Store, S2.set l (rK (putD kl (.inr k) (.lst ((ls.filter fun t => !decide (t = e)).map .str)))) = S3 := ⟨_, rfl⟩
    rw [hS3] at t3 r3
    obtain ⟨kw, w1, w2, w3, w3k⟩ := t3.tw
    have e4 : getK kw (.inr e) = some (.str k) := by rw [w2 e]; show vS (A.W e) = _; rw [hwe]; rfl
    have t4 := t3.dropW w1 w2 w3 w3k e
    have r4 := Fr.set (S := S3) (h := h) (l := l) (o := o) (w := w) w (rK (dropD kw (.inr e))) (.inr (.inr (.inr rfl)))
    obtain ⟨S4, hS4⟩ : ∃ S4 : Store, S3.set w (rK (dropD kw (.inr e))) = S4 := ⟨_, rfl⟩
    rw [hS4] at t4 r4
    obtain ⟨kh2, h4, h5, h6, h6k⟩ := t4.th
    have t5 := t4.setH h4 h5 h6 h6k k e
    have r5 := Fr.set (S := S4) (h := h) (l := l) (o := o) (w := w) h (rK (putD kh2 (.inr k) (.str e))) (.inl rfl)
    obtain ⟨S5, hS5⟩ : ∃ S5 : Store, S4.set h (rK (putD kh2 (.inr k) (.str e))) = S5 := ⟨_, rfl⟩
    rw [hS5] at t5 r5
    obtain ⟨ko2, o4, o5, o6, o6k⟩ := t5.to
    have hB : (upF A.O n (some (xs.filter fun t => !decide (t = k))) e) = (A.give0 n k).O e := by unfold LK.give0; rw [hxs]; rfl
    have e5 : getK ko2 (.inr e) = vL ((A.give0 n k).O e) := by rw [o5 e, ← hB]
    have e6 := vL_getD ((A.give0 n k).O e)
    have t6 := t5.setO o4 o5 o6 o6k e ((((A.give0 n k).O e).getD []) ++ [k])
    have r6 := Fr.set (S := S5) (h := h) (l := l) (o := o) (w := w) o (rK (putD ko2 (.inr e) (.lst (((((A.give0 n k).O e).getD []) ++ [k]).map .str)))) (.inr (.inr (.inl rfl)))
    have f1 : ((((A.give0 n k).O e).getD []) ++ [k]).map D.str = (((A.give0 n k).O e).getD []).map D.str ++ [.str k] := by rw [List.map_append]; rfl
    have hlen : (((A.give0 n k).O e).getD []).length ≤ 90000 := by
      show ((upF A.O n _ e).getD []).length ≤ _
      by_cases c : e = n
      · rw [c, upF_same]; exact Nat.le_trans (List.length_filter_le _ _) (s.2 n)
      · rw [upF_ne _ _ c]; exact s.2 e
    have hx : xs.length ≤ 90000 := by have := s.2 n; rw [hxs] at this; exact this
    have hy : ls.length ≤ 90000 := by have := s.1 k; rw [hls] at this; exact this
    have fl := fun (env : En) (S : Store) (hi : 4 < env.length) (hj : env[3]? = some (.f (.str k))) => flt_strs 4 3 xs k env S (by decide) hi hj (by omega)
    have fl2 := fun (env : En) (S : Store) (hi : 4 < env.length) (hj : env[1]? = some (.f (ddD (.give n k (some e))))) => flt_gen 4 ls e (tBin neD (eVar 4) (eBin ixD (eVar 1) (eC (.int 3)))) env S hi (fun x => by
      have y1 : (env.set 4 (.f (.str x)))[4]? = some (.f (.str x)) := List.getElem?_set_self hi
      have y2 : (env.set 4 (.f (.str x)))[1]? = some (.f (ddD (.give n k (some e)))) := by rw [List.getElem?_set_ne (by decide)]; exact hj
      walk_at "ev*") (by omega)
    have q1 : (ko.length < lim) = True := eq_true (by unfold lim; omega)
    have q2 : (kl.length < lim) = True := eq_true (by unfold lim; omega)
    have q3 : (kh2.length < lim) = True := eq_true (by unfold lim; omega)
    have q4 : (ko2.length < lim) = True := eq_true (by unfold lim; omega)
    have q5 : ((((A.give0 n k).O e).getD []).length + 1 ≤ lim) = True := eq_true (by unfold lim; omega)
    rw [f1] at t6 r6
    refine ⟨_, ?_, up (A' := A.move (.give n k (some e))) (N' := N + 1 + 1 + 1 + 1) ?_ (by omega), ((((r1.trans r2).trans r3).trans r4).trans r5).trans r6⟩
    · generalize ddD (.give n k (some e)) = dd at *
      generalize stK h l o w = st at *
      clear t t1 t2 t3 t4 t5 t6 r1 r2 r3 r4 r5 r6 h2 o2 l2 w2 h5 o5 g s hd c1 c2 hxs hls hwe hB f1
      walk_at "ev*"
    · show Tabs _ h l o w (A.give1 n k e) _
      have ee : A.give1 n k e = { H := upF (upF A.H k none) k (some e), L := upF A.L k (some (ls.filter fun t => !decide (t = e))), O := upF (upF A.O n (some (xs.filter fun t => !decide (t = k)))) e (some (((A.give0 n k).O e).getD [] ++ [k])), W := upF A.W e none } := by
        unfold LK.give1
        rw [hls]
        unfold LK.give0
        rw [hxs]
        rfl
      rw [ee]
      exact t6

theorem Acyc.move {A : LK} (h : Acyc A) (g : Gd A) {d : Dd} (hd : A.due d = Str.ofString "") (hr : RingOk A d) : Acyc (A.move d) := by
  obtain ⟨rk, hrk⟩ := h
  rcases due_nil hd with ⟨n, k, rfl, c1, c2⟩ | ⟨n, k, rfl, c1, c2, c3⟩ | ⟨n, k, rfl, c1, c2⟩ | ⟨n, k, e, rfl, c1, c2⟩
  · refine ⟨rk, fun a b e => hrk a b ?_⟩
    have e : (A.W a).bind (upF A.H k (some n)) = some b := e
    unfold LK.arrow
    cases q : A.W a with
    | none => rw [q] at e; cases e
    | some k' =>
      rw [q] at e
      have e : upF A.H k (some n) k' = some b := e
      by_cases c : k' = k
      · have := g.v _ _ q
        have := g.l k' (fun z => by rw [z] at this; cases this)
        rw [c, c1] at this; cases this
      · rw [upF_ne _ _ c] at e; exact e
  · obtain ⟨hh, hh2⟩ := Option.isSome_iff_exists.mp c1
    obtain ⟨r, hr⟩ := hr n k rfl c1 c2
    cases r with
    | some way => exact absurd hr (c3 way)
    | none =>
      rw [hh2] at hr
      have nr := chase_no _ _ _ hr
      classical
      refine ⟨fun x => if Rch A x n then rk x + rk hh + 1 else rk x, fun a b e => ?_⟩
      have e : (upF A.W n (some k) a).bind A.H = some b := e
      by_cases c : a = n
      · rw [c, upF_same] at e
        have e : A.H k = some b := e
        rw [hh2] at e
        cases e
        show (if Rch A hh n then _ else _) < (if Rch A a n then _ else _)
        rw [if_neg nr, c, if_pos (Rch.rfl n)]
        omega
      · rw [upF_ne _ _ c] at e
        have e : A.arrow a = some b := e
        have lt := hrk _ _ e
        show (if Rch A b n then _ else _) < (if Rch A a n then _ else _)
        by_cases c4 : Rch A b n
        · rw [if_pos c4, if_pos (Rch.step e c4)]; omega
        · rw [if_neg c4]
          by_cases c5 : Rch A a n
          · rw [if_pos c5]; omega
          · rw [if_neg c5]; exact lt
  · refine ⟨rk, fun a b e => hrk a b ?_⟩
    have e : (A.W a).bind (upF A.H k none) = some b := e
    unfold LK.arrow
    cases q : A.W a with
    | none => rw [q] at e; cases e
    | some k' =>
      rw [q] at e
      have e : upF A.H k none k' = some b := e
      by_cases c : k' = k
      · rw [c, upF_same] at e; cases e
      · rw [upF_ne _ _ c] at e; exact e
  · refine ⟨fun x => if x = e then 0 else rk x + 1, fun a b q => ?_⟩
    have q : (upF A.W e none a).bind (upF (upF A.H k none) k (some e)) = some b := q
    by_cases c : a = e
    · rw [c, upF_same] at q; cases q
    · rw [upF_ne _ _ c] at q
      show (if b = e then 0 else rk b + 1) < (if a = e then 0 else rk a + 1)
      rw [if_neg c]
      by_cases c5 : b = e
      · rw [if_pos c5]; omega
      · rw [if_neg c5]
        cases qw : A.W a with
        | none => rw [qw] at q; cases q
        | some k' =>
          rw [qw] at q
          have q : upF (upF A.H k none) k (some e) k' = some b := q
          by_cases c6 : k' = k
          · rw [c6, upF_same] at q; cases q; exact absurd rfl c5
          · rw [upF_ne _ _ c6, upF_ne _ _ c6] at q
            have := hrk a b (by unfold LK.arrow; rw [qw]; exact q)
            omega
theorem Wn.move {A : LK} {T : List Str} (h : Wn A T) {d : Dd} (hd : ∀ n k, d = .want n k → n ∈ T) : Wn (A.move d) T := by
  match d, hd with
  | .get n k, _ => exact h
  | .give n k none, _ => exact h
  | .want n k, hd =>
    intro a ha
    have ha : (upF A.W n (some k) a).isSome = true := ha
    by_cases c : a = n
    · rw [c]; exact hd n k rfl
    · rw [upF_ne _ _ c] at ha; exact h a ha
  | .give n k (some e), _ =>
    intro a ha
    have ha : (upF A.W e none a).isSome = true := ha
    by_cases c : a = e
    · rw [c, upF_same] at ha; cases ha
    · rw [upF_ne _ _ c] at ha; exact h a ha
def Hn (A : LK) (T : List Str) : Prop := ∀ k n, A.H k = some n → n ∈ T
theorem Hn.move {A : LK} {T : List Str} (h : Hn A T) (g : Gd A) (hw : Wn A T) {d : Dd} (hd : A.due d = Str.ofString "") (hg : ∀ n k, d = .get n k → n ∈ T) : Hn (A.move d) T := by
  rcases due_nil hd with ⟨n, k, rfl, c1, c2⟩ | ⟨n, k, rfl, c1, c2, c3⟩ | ⟨n, k, rfl, c1, c2⟩ | ⟨n, k, e, rfl, c1, c2⟩
  · intro k' n' q
    have q : upF A.H k (some n) k' = some n' := q
    by_cases c : k' = k
    · rw [c, upF_same] at q; cases q; exact hg _ _ rfl
    · rw [upF_ne _ _ c] at q; exact h _ _ q
  · exact h
  · intro k' n' q
    have q : upF A.H k none k' = some n' := q
    by_cases c : k' = k
    · rw [c, upF_same] at q; cases q
    · rw [upF_ne _ _ c] at q; exact h _ _ q
  · intro k' n' q
    have q : upF (upF A.H k none) k (some e) k' = some n' := q
    by_cases c : k' = k
    · rw [c, upF_same] at q; cases q
      exact hw _ (by rw [g.w _ _ c2]; rfl)
    · rw [upF_ne _ _ c, upF_ne _ _ c] at q; exact h _ _ q
theorem lnew_ok (S : Store) : fn_law_new [] S = .ok (.f (stK S.length (S.length + 1) (S.length + 1 + 1) (S.length + 1 + 1 + 1))) (S ++ [rK []] ++ [rK []] ++ [rK []] ++ [rK []]) := by
  have hg := fun h l o w => mrg h l o w
  unfold fn_law_new dn_law_new
  walk_at "ev*"
/-- texts that can be laid -/
def Tk (A : LK) : Prop := (∀ n, ∀ t ∈ (A.L n).getD [], PyData.strOk t = true) ∧ ∀ n, ∀ t ∈ (A.O n).getD [], PyData.strOk t = true
def DdOk : Dd → Prop
  | .get _ k => PyData.strOk k = true
  | .want n _ => PyData.strOk n = true
  | .give _ k _ => PyData.strOk k = true
theorem Tk.move {A : LK} (h : Tk A) {d : Dd} (hd : DdOk d) : Tk (A.move d) := by
  have up : ∀ (f : Str → Option (List Str)) (k : Str) (xs : List Str), (∀ n, ∀ t ∈ (f n).getD [], PyData.strOk t = true) → (∀ t ∈ xs, PyData.strOk t = true) → ∀ n, ∀ t ∈ ((upF f k (some xs)) n).getD [], PyData.strOk t = true := fun f k xs h1 h2 n t ht => by
    by_cases c : n = k
    · rw [c, upF_same] at ht; exact h2 t ht
    · rw [upF_ne _ _ c] at ht; exact h1 n t ht
  have ap : ∀ (xs : List Str) (y : Str), (∀ t ∈ xs, PyData.strOk t = true) → PyData.strOk y = true → ∀ t ∈ xs ++ [y], PyData.strOk t = true := fun xs y h1 h2 t ht => by
    rcases List.mem_append.mp ht with h | h
    · exact h1 t h
    · simp only [List.mem_cons, List.not_mem_nil, or_false] at h
      rw [h]; exact h2
  have fl : ∀ (xs : List Str) (p : Str → Bool), (∀ t ∈ xs, PyData.strOk t = true) → ∀ t ∈ xs.filter p, PyData.strOk t = true := fun xs p h1 t ht => h1 t (List.mem_filter.mp ht).1
  match d, hd with
  | .get n k, hd => exact ⟨h.1, up _ _ _ h.2 (ap _ _ (h.2 n) hd)⟩
  | .want n k, hd => exact ⟨up _ _ _ h.1 (ap _ _ (h.1 k) hd), h.2⟩
  | .give n k none, hd => exact ⟨h.1, up _ _ _ h.2 (fl _ _ (h.2 n))⟩
  | .give n k (some e), hd => exact ⟨up _ _ _ h.1 (fl _ _ (h.1 k)), up _ _ _ (up _ _ _ h.2 (fl _ _ (h.2 n))) (ap _ _ (up _ _ _ h.2 (fl _ _ (h.2 n)) e) hd)⟩
def Dd.n : Dd → Str
  | .get n _ => n
  | .want n _ => n
  | .give n _ _ => n
def Dd.lk : Dd → Str
  | .get _ k => k
  | .want _ k => k
  | .give _ k _ => k
theorem ix_n (d : Dd) : ixD (ddD d) (.int 1) = some (.str d.n) := by cases d <;> rfl
theorem ix_lk (d : Dd) : ixD (ddD d) (.int 2) = some (.str d.lk) := by cases d <;> rfl

/-! ### the locks and the law's tables, side by side -/
structure Ad where
  (b h l o w h' l' o' w' : Nat)
def Ad.st (a : Ad) : D := stK a.h' a.l' a.o' a.w'
def Ad.has (a : Ad) (j : Nat) : Prop := (j = a.b ∨ j = a.h ∨ j = a.l ∨ j = a.o ∨ j = a.w) ∨ j = a.h' ∨ j = a.l' ∨ j = a.o' ∨ j = a.w'
structure Ws (S : Store) (a : Ad) (A : LK) (T : List Str) (n : Nat) : Prop where
  i : InvL S a.b a.h a.l a.o a.w A (4 * n)
  t : Tabs S a.h' a.l' a.o' a.w' A (4 * n)
  ap : ∀ x, (x = a.b ∨ x = a.h ∨ x = a.l ∨ x = a.o ∨ x = a.w) → ∀ y, (y = a.h' ∨ y = a.l' ∨ y = a.o' ∨ y = a.w') → x ≠ y
  g : Gd A
  ho : Ho A
  ac : Acyc A
  wn : Wn A T
  hn : Hn A T
  sz : Sz A n
  tk : Tk A
structure Fs (S S' : Store) (a : Ad) : Prop where
  len : S'.length = S.length
  eq : ∀ j, ¬ a.has j → S'[j]? = S[j]?
theorem Fs.refl (S : Store) (a : Ad) : Fs S S a := ⟨rfl, fun _ _ => rfl⟩
theorem Fs.trans {S S1 S2 : Store} {a : Ad} (x : Fs S S1 a) (y : Fs S1 S2 a) : Fs S S2 a := ⟨y.len.trans x.len, fun j h => (y.eq j h).trans (x.eq j h)⟩
theorem Fs.of1 {S S' : Store} {a : Ad} (f : Fr S S' a.h a.l a.o a.w) : Fs S S' a := ⟨f.len, fun j h => f.eq j (fun e => h (.inl (.inr (.inl e)))) (fun e => h (.inl (.inr (.inr (.inl e))))) (fun e => h (.inl (.inr (.inr (.inr (.inl e)))))) (fun e => h (.inl (.inr (.inr (.inr (.inr e))))))⟩
theorem Fs.of2 {S S' : Store} {a : Ad} (f : Fr S S' a.h' a.l' a.o' a.w') : Fs S S' a := ⟨f.len, fun j h => f.eq j (fun e => h (.inr (.inl e))) (fun e => h (.inr (.inr (.inl e)))) (fun e => h (.inr (.inr (.inr (.inl e))))) (fun e => h (.inr (.inr (.inr (.inr e)))))⟩
theorem Ws.mono {S S' : Store} {a : Ad} {A : LK} {T : List Str} {n m : Nat} (W : Ws S a A T n) (k : ∀ j, a.has j → S'[j]? = S[j]?) (h : n ≤ m) : Ws S' a A T m :=
  ⟨W.i.mono (fun j hj => k j (.inl hj)) (by omega), W.t.mono (fun j hj => k j (.inr hj)) (by omega), W.ap, W.g, W.ho, W.ac, W.wn, W.hn, ⟨fun x => Nat.le_trans (W.sz.1 x) h, fun x => Nat.le_trans (W.sz.2 x) h⟩, W.tk⟩
theorem Sz.up {A : LK} {n m : Nat} (s : Sz A n) (h : n ≤ m) : Sz A m := ⟨fun x => Nat.le_trans (s.1 x) h, fun x => Nat.le_trans (s.2 x) h⟩
theorem Ho.move {A : LK} (h : Ho A) {d : Dd} (hd : A.due d = Str.ofString "") : Ho (A.move d) := by
  rcases due_nil hd with ⟨n, k, rfl, c1, c2⟩ | ⟨n, k, rfl, c1, c2, c3⟩ | ⟨n, k, rfl, c1, c2⟩ | ⟨n, k, e, rfl, c1, c2⟩
  · exact h.get c1
  · exact h.want
  · exact h.give0 c1
  · exact h.give1 c1
section
variable {S : Store} {a : Ad} {A : LK} {T : List Str} {n : Nat} (W : Ws S a A T n)
include W
theorem Ws.ring (hT : T.length ≤ 60) (d : Dd) (hn : d.n ∈ T) : RingOk A d := fun x k e c1 c2 => by
  subst e
  have hn : x ∈ T := hn
  refine chase_ends (T := T.erase x) W.ac (fun y hy => ?_) (by rw [List.length_erase_of_mem hn]; omega) x _ _
  have ne : y ≠ x := fun z => by rw [z, c2] at hy; cases hy
  exact (List.mem_erase_of_ne ne).mpr (W.wn y hy)
theorem Ws.move {d : Dd} (hd : A.due d = Str.ofString "") (hr : RingOk A d) (hx : d.n ∈ T) (k : DdOk d) {S2 : Store} (i2 : InvL S2 a.b a.h a.l a.o a.w (A.move d) (4 * n + 4)) (t2 : Tabs S2 a.h' a.l' a.o' a.w' (A.move d) (4 * n + 4)) : Ws S2 a (A.move d) T (n + 1) :=
  ⟨i2, t2, W.ap, W.g.move hd, W.ho.move hd, W.ac.move W.g hd hr, W.wn.move (fun n k e => by subst e; exact hx), W.hn.move W.g W.wn hd (fun n k e => by subst e; exact hx), W.sz.move d, W.tk.move k⟩
end
theorem prog_ok {S : Store} {b h l o w : Nat} {A : LK} {N M : Nat} (i : InvL S b h l o w A N) (g : Gd A) (s : Sz A M) (hM : M ≤ 90000) (hN : N ≤ 90000) (d : Dd) (hr : RingOk A d) (hd : A.due d = Str.ofString "") :
    ∃ S', (match d with
      | .get n k => fn_Locks_get [.obj b, .str n, .str k] S
      | .want n k => fn_Locks_want [.obj b, .str n, .str k] S
      | .give n k e => fn_Locks_give [.obj b, .str n, .str k, sD e] S) = .ok (.f .non) S' ∧ InvL S' b h l o w (A.move d) (N + 4) ∧ Fr S S' h l o w := by
  have lk : ∀ n, ((A.L n).getD []).length ≤ 100000 := fun n => Nat.le_trans (s.1 n) (by omega)
  have ok : ∀ n, ((A.O n).getD []).length ≤ 100000 := fun n => Nat.le_trans (s.2 n) (by omega)
  rcases due_nil hd with ⟨n, k, rfl, c1, c2⟩ | ⟨n, k, rfl, c1, c2, c3⟩ | ⟨n, k, rfl, c1, c2⟩ | ⟨n, k, e, rfl, c1, c2⟩
  · obtain ⟨S', e1, e2, e3⟩ := get_yes i (by omega) n k c1 c2 (ok n)
    exact ⟨S', e1, e2.mono (fun _ _ => rfl) (by omega), e3⟩
  · obtain ⟨r, hr⟩ := hr n k rfl c1 c2
    cases r with
    | some way => exact absurd hr (c3 way)
    | none =>
      obtain ⟨S', e1, e2, e3⟩ := want_yes i (by omega) n k c1 c2 (chase_mono hr (by decide)) (lk k)
      exact ⟨S', e1, e2.mono (fun _ _ => rfl) (by omega), e3⟩
  · obtain ⟨S', e1, e2, e3⟩ := give0_yes i (by omega) n k c1 c2 (ok n)
    exact ⟨S', e1, e2.mono (fun _ _ => rfl) (by omega), e3⟩
  · obtain ⟨S', e1, e2, e3⟩ := give1_yes i (by omega) n k e c1 c2 (by rw [g.w _ _ c2]; rfl) (ok n) (ok e) (lk k)
    exact ⟨S', e1, e2.mono (fun _ _ => rfl) (by omega), e3⟩
section
variable {S : Store} {a : Ad} {A : LK} {T : List Str} {n : Nat} (W : Ws S a A T n)
include W
/-- the law's tables first, then the locks -/
theorem Ws.step1 (hn : n ≤ 20000) (hT : T.length ≤ 60) {d : Dd} (hd : A.due d = Str.ofString "") (hx : d.n ∈ T) (k : DdOk d) : ∃ S1 S2, fn_law_moved [a.st, ddD d] S = .ok (.f .non) S1 ∧ S1[a.b]? = some (locksOb a.h a.l a.o a.w) ∧ (match d with
      | .get n k => fn_Locks_get [.obj a.b, .str n, .str k] S1
      | .want n k => fn_Locks_want [.obj a.b, .str n, .str k] S1
      | .give n k e => fn_Locks_give [.obj a.b, .str n, .str k, sD e] S1) = .ok (.f .non) S2 ∧ Ws S2 a (A.move d) T (n + 1) ∧ Fs S S2 a := by
  have hr := W.ring hT d hx
  obtain ⟨S1, m1, m2, m3⟩ := moved_ok W.t W.g (W.sz.up (by omega)) (by omega) d hd
  have i1 : InvL S1 a.b a.h a.l a.o a.w A (4 * n) := W.i.mono (fun j hj => m3.eq j (W.ap j hj _ (.inl rfl)) (W.ap j hj _ (.inr (.inl rfl))) (W.ap j hj _ (.inr (.inr (.inl rfl)))) (W.ap j hj _ (.inr (.inr (.inr rfl))))) (Nat.le_refl _)
  obtain ⟨S2, p1, p2, p3⟩ := prog_ok i1 W.g (W.sz.up (by omega)) (Nat.le_refl 90000) (by omega) d hr hd
  refine ⟨S1, S2, m1, i1.ob, p1, W.move hd hr hx k p2 (m2.mono (fun j hj => ?_) (Nat.le_refl _)), (Fs.of2 m3).trans (Fs.of1 p3)⟩
  exact p3.eq j (fun e => W.ap _ (.inr (.inl e)) j hj rfl) (fun e => W.ap _ (.inr (.inr (.inl e))) j hj rfl) (fun e => W.ap _ (.inr (.inr (.inr (.inl e)))) j hj rfl) (fun e => W.ap _ (.inr (.inr (.inr (.inr e)))) j hj rfl)
/-- the locks first, then the law's tables -/
theorem Ws.step2 (hn : n ≤ 20000) (hT : T.length ≤ 60) {d : Dd} (hd : A.due d = Str.ofString "") (hx : d.n ∈ T) (k : DdOk d) : ∃ S1 S2, (match d with
      | .get n k => fn_Locks_get [.obj a.b, .str n, .str k] S
      | .want n k => fn_Locks_want [.obj a.b, .str n, .str k] S
      | .give n k e => fn_Locks_give [.obj a.b, .str n, .str k, sD e] S) = .ok (.f .non) S1 ∧ fn_law_moved [a.st, ddD d] S1 = .ok (.f .non) S2 ∧ Ws S2 a (A.move d) T (n + 1) ∧ Fs S S2 a := by
  have hr := W.ring hT d hx
  obtain ⟨S1, p1, p2, p3⟩ := prog_ok W.i W.g (W.sz.up (by omega)) (Nat.le_refl 90000) (by omega) d hr hd
  have t1 : Tabs S1 a.h' a.l' a.o' a.w' A (4 * n) := W.t.mono (fun j hj => p3.eq j (fun e => W.ap _ (.inr (.inl e)) j hj rfl) (fun e => W.ap _ (.inr (.inr (.inl e))) j hj rfl) (fun e => W.ap _ (.inr (.inr (.inr (.inl e)))) j hj rfl) (fun e => W.ap _ (.inr (.inr (.inr (.inr e)))) j hj rfl)) (Nat.le_refl _)
  obtain ⟨S2, m1, m2, m3⟩ := moved_ok t1 W.g (W.sz.up (by omega)) (by omega) d hd
  exact ⟨S1, S2, p1, m1, W.move hd hr hx k (p2.mono (fun j hj => m3.eq j (W.ap j hj _ (.inl rfl)) (W.ap j hj _ (.inr (.inl rfl))) (W.ap j hj _ (.inr (.inr (.inl rfl)))) (W.ap j hj _ (.inr (.inr (.inr rfl))))) (Nat.le_refl _)) m2, (Fs.of1 p3).trans (Fs.of2 m3)⟩
theorem taken_ok (hn : n ≤ 20000) (hT : T.length ≤ 60) {x y : Str} (hx : x ∈ T) (sx : PyData.strOk x = true) (sy : PyData.strOk y = true) :
    ∃ S' A', fn_law_taken [.obj a.b, a.st, .str x, .str y] S = .ok (.f .non) S' ∧ Ws S' a A' T (n + 1) ∧ Fs S S' a := by
  obtain ⟨kh, h1, h2, -⟩ := W.t.th
  have g1 : dgetD a.st (.str (Str.ofString "holder")) = some (.obj a.h') := stK_h _ _ _ _
  have e1 : getK kh (.inr y) = vS (A.H y) := h2 y
  have e2 := vS_isSome (A.H y)
  have Lc : (locksOb a.h a.l a.o a.w).cls = Str.ofString "Locks" := rfl
  have Lf : (locksOb a.h a.l a.o a.w).fs = [(Str.ofString "holders", FV.f (.obj a.h)), (Str.ofString "lines", FV.f (.obj a.l)), (Str.ofString "owns", FV.f (.obj a.o)), (Str.ofString "wants", FV.f (.obj a.w))] := rfl
  unfold fn_law_taken
  cases c : (A.H y).isSome with
  | true =>
    rw [c] at e2
    have du : fn_law_due [a.st, .tup [.str (Str.ofString "want"), .str x, .str y]] S = .ok (.f (.str (A.due (.want x y)))) S := due_ok W.t (W.sz.up (by omega)) (.want x y) (W.ring hT (.want x y) hx)
    by_cases q : A.due (.want x y) = Str.ofString ""
    · obtain ⟨S1, S2, m1, b1, p1, W2, f2⟩ := W.step1 hn hT q hx sx
      replace m1 : fn_law_moved [a.st, .tup [.str (Str.ofString "want"), .str x, .str y]] S = .ok (.f .non) S1 := m1
      replace p1 : fn_Locks_want [.obj a.b, .str x, .str y] S1 = .ok (.f .non) S2 := p1
      refine ⟨S2, _, ?_, W2, f2⟩
      rw [q] at du
      generalize a.st = st at *
      clear W W2 f2 h2 c q
      walk_at "go*"
    · refine ⟨S, A, ?_, W.mono (fun _ _ => rfl) (by omega), Fs.refl _ _⟩
      have q := eq_false q
      generalize A.due (.want x y) = dd at *
      generalize a.st = st at *
      clear W h2 c
      walk_at "go*"
  | false =>
    rw [c] at e2
    have du : fn_law_due [a.st, .tup [.str (Str.ofString "get"), .str x, .str y]] S = .ok (.f (.str (A.due (.get x y)))) S := due_ok W.t (W.sz.up (by omega)) (.get x y) (W.ring hT (.get x y) hx)
    by_cases q : A.due (.get x y) = Str.ofString ""
    · obtain ⟨S1, S2, m1, b1, p1, W2, f2⟩ := W.step1 hn hT q hx sy
      replace m1 : fn_law_moved [a.st, .tup [.str (Str.ofString "get"), .str x, .str y]] S = .ok (.f .non) S1 := m1
      replace p1 : fn_Locks_get [.obj a.b, .str x, .str y] S1 = .ok (.f .non) S2 := p1
      refine ⟨S2, _, ?_, W2, f2⟩
      rw [q] at du
      generalize a.st = st at *
      clear W W2 f2 h2 c q
      walk_at "go*"
    · refine ⟨S, A, ?_, W.mono (fun _ _ => rfl) (by omega), Fs.refl _ _⟩
      have q := eq_false q
      generalize A.due (.get x y) = dd at *
      generalize a.st = st at *
      clear W h2 c
      walk_at "go*"
end

/-! ### the locks built, given on -/
theorem mulD_l {i j : Int} (h : -(2 ^ 64) < i ∧ i < 2 ^ 64) : mulD (.int i) (.int j) = some (.int (i * j)) := by
  show (if (-(2 ^ 64) < i ∧ i < 2 ^ 64) ∨ (-(2 ^ 64) < j ∧ j < 2 ^ 64) then some (D.int (i * j)) else none) = _
  rw [if_pos (Or.inl h)]
theorem mulD_r {i j : Int} (h : -(2 ^ 64) < j ∧ j < 2 ^ 64) : mulD (.int i) (.int j) = some (.int (i * j)) := by
  show (if (-(2 ^ 64) < i ∧ i < 2 ^ 64) ∨ (-(2 ^ 64) < j ∧ j < 2 ^ 64) then some (D.int (i * j)) else none) = _
  rw [if_pos (Or.inr h)]
def adOf (n : Nat) : Ad := ⟨n, n + 1, n + 2, n + 3, n + 4, n + 5, n + 6, n + 7, n + 8⟩
theorem Wn.new (T : List Str) : Wn LK.new T := fun _ h => by cases h
theorem fresh_ok (S : Store) (T : List Str) : ∃ S1 S2, fn_Locks___init__ [.obj S.length] (S ++ [⟨"Locks", []⟩]) = .ok (.f .non) S1 ∧ fn_law_new [] S1 = .ok (.f (adOf S.length).st) S2 ∧ Ws S2 (adOf S.length) LK.new T 0 ∧ S2.length = S.length + 9 ∧ ∀ j, j < S.length → S2[j]? = S[j]? := by
  have hb : (S ++ [(⟨"Locks", []⟩ : Ob)])[S.length]? = some ⟨"Locks", []⟩ := by rw [List.getElem?_append_right (Nat.le_refl _), Nat.sub_self]; rfl
  obtain ⟨S1, i1, i2, i3, i4⟩ := linit_ok hb
  have l1 : (S ++ [(⟨"Locks", []⟩ : Ob)]).length = S.length + 1 := by simp
  rw [l1] at i2 i3 i4
  have ln := lnew_ok S1
  have t := new4 S1
  rw [i3] at ln t
  obtain ⟨S2, hS2⟩ : ∃ S2 : Store, S1 ++ [rK []] ++ [rK []] ++ [rK []] ++ [rK []] = S2 := ⟨_, rfl⟩
  have k2 : ∀ j, j < S.length + 5 → S2[j]? = S1[j]? := fun j hj => by rw [← hS2, List.append_assoc, List.append_assoc, List.append_assoc, List.getElem?_append_left (by omega)]
  have l2 : S2.length = S.length + 9 := by rw [← hS2]; simp [i3]
  rw [hS2] at ln t
  refine ⟨S1, S2, i1, ln, ⟨?_, t, ?_, Gd.new, Ho.new, Acyc.new, Wn.new T, (fun _ _ h => by cases h), ⟨fun _ => Nat.le_refl _, fun _ => Nat.le_refl _⟩, ⟨(fun _ _ h => by cases h), fun _ _ h => by cases h⟩⟩, l2, fun j hj => ?_⟩
  · exact InvL.mono (A := LK.new) (N := 0) i2 (fun j hj => k2 j (by
    have hj : j = S.length ∨ j = S.length + 1 ∨ j = S.length + 2 ∨ j = S.length + 3 ∨ j = S.length + 4 := hj
    omega)) (Nat.le_refl _)
  · intro x hx y hy
    show x ≠ y
    have hx : x = S.length ∨ x = S.length + 1 ∨ x = S.length + 2 ∨ x = S.length + 3 ∨ x = S.length + 4 := hx
    have hy : y = S.length + 5 ∨ y = S.length + 6 ∨ y = S.length + 7 ∨ y = S.length + 8 := hy
    omega
  · rw [k2 j (by omega), i4 j (by omega) (by omega), List.getElem?_append_left hj]
section
variable {a : Ad} {T : List Str}
/-- a loop whose body lets one task take one lock -/
theorem takes_ok (hT : T.length ≤ 60) {α : Type} {body : En → M Fl} {b : D → En → Option En} (enc : α → D) (EV : En → Prop) : ∀ (xs : List α), (∀ env, EV env → ∀ x ∈ xs, ∃ env1, b (enc x) env = some env1 ∧ ∃ env2, EV env2 ∧ ∃ u v, u ∈ T ∧ PyData.strOk u = true ∧ PyData.strOk v = true ∧ ∀ S S', fn_law_taken [.obj a.b, a.st, .str u, .str v] S = .ok (.f .non) S' → body env1 S = .ok (.nx env2) S') →
    ∀ n S A env, Ws S a A T n → EV env → n + xs.length ≤ 20000 → ∃ env' S' A', forD body b (xs.map enc) env S = .ok (.nx env') S' ∧ EV env' ∧ Ws S' a A' T (n + xs.length) ∧ Fs S S' a
  | [], _, n, S, A, env, W, he, _ => ⟨env, S, A, rfl, he, W, Fs.refl _ _⟩
  | x :: xs, h, n, S, A, env, W, he, hn => by
    simp only [List.length_cons] at hn ⊢
    obtain ⟨env1, h1, env2, h2, u, v, h3, h4, h5, h6⟩ := h env he x List.mem_cons_self
    obtain ⟨S1, A1, t1, W1, f1⟩ := taken_ok W (by omega) hT h3 h4 h5
    obtain ⟨env', S', A', q1, q2, q3, q4⟩ := takes_ok hT enc EV xs (fun env he y hy => h env he y (List.mem_cons_of_mem _ hy)) (n + 1) S1 A1 env2 W1 h2 (by omega)
    refine ⟨env', S', A', ?_, q2, q3.mono (fun _ _ => rfl) (by omega), f1.trans q4⟩
    rw [List.map_cons, forD_nx h1 (h6 S S1 t1)]
    exact q1
end
theorem built_ok {ns : List Int} (hl : ns.length ≤ 63) {names some' : List Str} (hn : 0 < names.length) (hT : names.length ≤ 60) (hs : ∀ x ∈ names, PyData.strOk x = true) (hm : 0 < some'.length) (hm2 : some'.length ≤ 60) (hs2 : ∀ x ∈ some', PyData.strOk x = true) (S : Store) :
    ∃ S' A, fn_law_built [.scr ns, .lst (names.map .str), .lst (some'.map .str)] S = .ok (.f (.tup [.obj S.length, (adOf S.length).st])) S' ∧ Ws S' (adOf S.length) A names 160 ∧ S'.length = S.length + 9 ∧ ∀ j, j < S.length → S'[j]? = S[j]? := by
  obtain ⟨S1, S2, i1, i2, W2, l2, k2⟩ := fresh_ok S names
  have c0 := fun S => cell_ok ns 0 hl S
  have c4 := fun S => cell_ok ns 4 hl S
  simp only [Int.ofNat_zero, Int.ofNat_one, Int.cast_ofNat_Int] at c0 c4
  have aa : (adOf S.length).b = S.length := rfl
  have fsl : ∀ {S S' : Store} {n : Nat}, Fs S S' (adOf n) → ∀ j, j < n → S'[j]? = S[j]? := fun {S S' n} f j hj => f.eq j (fun h => by
    rcases h with h | h
    · have h : j = n ∨ j = n + 1 ∨ j = n + 2 ∨ j = n + 3 ∨ j = n + 4 := h
      omega
    · have h : j = n + 5 ∨ j = n + 6 ∨ j = n + 7 ∨ j = n + 8 := h
      omega)
  generalize hd : adOf S.length = ad at *
  have p1 : ((0 : Int) < (names.length : Int)) = True := eq_true (by omega)
  have p2 : ((names.length : Int) < 1073741824) = True := eq_true (by omega)
  have p3 : ((0 : Int) < (some'.length : Int)) = True := eq_true (by omega)
  have p4 : ((some'.length : Int) < 1073741824) = True := eq_true (by omega)
  -- the drawn cells
  have lp1 : ∀ (xs : List Int), xs.length ≤ 30 → ∃ x5 S' A', forD dn_law_built_s1 (bName 5) (xs.map .int) [.f (.scr ns), .f (.lst (names.map .str)), .f (.lst (some'.map .str)), .f (.obj ad.b), .f ad.st, .u, .u] S2 = .ok (.nx [.f (.scr ns), .f (.lst (names.map .str)), .f (.lst (some'.map .str)), .f (.obj ad.b), .f ad.st, x5, .u]) S' ∧ Ws S' ad A' names 40 ∧ Fs S2 S' ad := fun xs hx => by
    obtain ⟨env', S', A', q1, ⟨x5, rfl⟩, q3, q4⟩ := takes_ok hT (body := dn_law_built_s1) (b := bName 5) D.int (fun env => ∃ x5, env = [.f (.scr ns), .f (.lst (names.map .str)), .f (.lst (some'.map .str)), .f (.obj ad.b), .f ad.st, x5, .u]) xs (by
      rintro _ ⟨x5, rfl⟩ c -
      obtain ⟨u, hu, s1⟩ := names_at (names := names) rfl hn c
      obtain ⟨v, hv, s2⟩ := names_at (names := some') rfl hm (c / (names.length : Int))
      refine ⟨_, rfl, _, ⟨EV.f (.int c), rfl⟩, u, v, hu, hs u hu, hs2 v hv, fun S S' tk => ?_⟩
      generalize ad.st = st at *
      clear aa hs hs2 W2 i1 i2 k2 fsl c0 c4
      walk_at "go*") 0 S2 LK.new _ W2 ⟨_, rfl⟩ (by omega)
    exact ⟨x5, S', A', q1, q3.mono (fun _ _ => rfl) (by omega), q4⟩
  obtain ⟨x5, S3, A3, q1, W3, f3⟩ := lp1 (cutI ns (some 4) (some 34)) (by have := cutI_len ns 4 34 (by decide) (by decide); simpa using this)
  have lp2 : ∀ (x6 : EV), ∃ x6' S' A', forD dn_law_built_s3 (bName 6) (rng 0 names.length) [.f (.scr ns), .f (.lst (names.map .str)), .f (.lst (some'.map .str)), .f (.obj ad.b), .f ad.st, x5, x6] S3 = .ok (.nx [.f (.scr ns), .f (.lst (names.map .str)), .f (.lst (some'.map .str)), .f (.obj ad.b), .f ad.st, x5, x6']) S' ∧ Ws S' ad A' names 100 ∧ Fs S3 S' ad := fun x6 => by
    rw [rng_map]
    obtain ⟨env', S', A', q1, ⟨x6', rfl⟩, q3, q4⟩ := takes_ok hT (body := dn_law_built_s3) (b := bName 6) (fun i : Nat => D.int (0 + (i : Nat))) (fun env => ∃ x6, env = [.f (.scr ns), .f (.lst (names.map .str)), .f (.lst (some'.map .str)), .f (.obj ad.b), .f ad.st, x5, x6]) (List.range names.length) (by
      rintro _ ⟨x6, rfl⟩ k hk
      have hk : k < names.length := by simpa using hk
      have s1 : ixD (.lst (names.map D.str)) (.int (0 + (k : Nat))) = some (.str names[k]) := by rw [Int.zero_add]; exact ix_map (List.getElem?_eq_getElem hk)
      obtain ⟨v, hv, s2⟩ := names_at (names := some') rfl hm (0 + (k : Nat))
      refine ⟨_, rfl, _, ⟨EV.f (.int (0 + (k : Nat))), rfl⟩, names[k], v, List.getElem_mem hk, hs _ (List.getElem_mem hk), hs2 v hv, fun S S' tk => ?_⟩
      generalize ad.st = st at *
      generalize names[k] = u at *
      generalize (0 : Int) + (k : Nat) = kk at *
      clear aa hs hs2 W2 i1 i2 k2 fsl c0 c4 q1 W3 lp1 f3
      walk_at "go*") 40 S3 A3 _ W3 ⟨x6, rfl⟩ (by simp; omega)
    exact ⟨x6', S', A', q1, q3.mono (fun _ _ => rfl) (by simp; omega), q4⟩
  have lp3 : ∀ (x6 : EV) (S4 : Store) (A4 : LK), Ws S4 ad A4 names 100 → ∃ x6' S' A', forD dn_law_built_s5 (bName 6) (rng 1 ((names.length : Int) - 1).toNat) [.f (.scr ns), .f (.lst (names.map .str)), .f (.lst (some'.map .str)), .f (.obj ad.b), .f ad.st, x5, x6] S4 = .ok (.nx [.f (.scr ns), .f (.lst (names.map .str)), .f (.lst (some'.map .str)), .f (.obj ad.b), .f ad.st, x5, x6']) S' ∧ Ws S' ad A' names 160 ∧ Fs S4 S' ad := fun x6 S4 A4 W4 => by
    rw [show rng 1 ((names.length : Int) - 1).toNat = (List.range ((names.length : Int) - 1).toNat).map fun i : Nat => D.int (1 + (i : Nat)) from rfl]
    obtain ⟨env', S', A', q1, ⟨x6', rfl⟩, q3, q4⟩ := takes_ok hT (body := dn_law_built_s5) (b := bName 6) (fun i : Nat => D.int (1 + (i : Nat))) (fun env => ∃ x6, env = [.f (.scr ns), .f (.lst (names.map .str)), .f (.lst (some'.map .str)), .f (.obj ad.b), .f ad.st, x5, x6]) (List.range ((names.length : Int) - 1).toNat) (by
      rintro _ ⟨x6, rfl⟩ k hk
      have hk : k < names.length := by have : k < ((names.length : Int) - 1).toNat := by simpa using hk
                                       omega
      have s1 : ixD (.lst (names.map D.str)) (.int (1 + (k : Nat) - 1)) = some (.str names[k]) := by rw [show (1 : Int) + (k : Nat) - 1 = (k : Nat) by omega]; exact ix_map (List.getElem?_eq_getElem hk)
      obtain ⟨v, hv, s2⟩ := names_at (names := some') rfl hm (1 + (k : Nat) + cellAt ns 4)
      refine ⟨_, rfl, _, ⟨EV.f (.int (1 + (k : Nat))), rfl⟩, names[k], v, List.getElem_mem hk, hs _ (List.getElem_mem hk), hs2 v hv, fun S S' tk => ?_⟩
      have c4 := c4 S
      generalize cellAt ns 4 = cl4 at *
      generalize ad.st = st at *
      generalize names[k] = u at *
      generalize (1 : Int) + (k : Nat) = kk at *
      clear aa hs hs2 W2 i1 i2 k2 fsl c0 q1 W3 lp1 f3 lp2 W4
      walk_at "go*") 100 S4 A4 _ W4 ⟨x6, rfl⟩ (by simp; omega)
    exact ⟨x6', S', A', q1, q3.mono (fun _ _ => rfl) (by simp; omega), q4⟩
  have u1 : (-1000000 ≤ (names.length : Int) ∧ (names.length : Int) ≤ 1000000) = True := eq_true ⟨by omega, by omega⟩
  have u2 : (-1000000 ≤ (1 : Int) ∧ (1 : Int) ≤ 1000000 ∧ -1000000 ≤ (names.length : Int) ∧ (names.length : Int) ≤ 1000000) = True := eq_true ⟨by omega, by omega, by omega, by omega⟩
  have tn : ((names.length : Int)).toNat = names.length := Int.toNat_natCast _
  have ci : (cutI ns (some 4) (some 34)).map D.int = (cutI ns (some 4) (some 34)).map .int := rfl
  have k3 : ∀ j, j < S.length → S3[j]? = S[j]? := fun j hj => by rw [fsl (n := S.length) (hd ▸ f3) j hj, k2 j hj]
  have c0 := c0 S3
  generalize cellAt ns 0 = cl0 at *
  unfold fn_law_built
  by_cases h7 : cl0 / 7 % 6 = 1
  · obtain ⟨x6, S4, A4, q2, W4, f4⟩ := lp2 .u
    obtain ⟨x6', S5, A5, q3, W5, f5⟩ := lp3 x6 S4 A4 W4
    refine ⟨S5, A5, ?_, W5, by rw [f5.len, f4.len, f3.len, l2], fun j hj => by rw [fsl (n := S.length) (hd ▸ f5) j hj, fsl (n := S.length) (hd ▸ f4) j hj, k3 j hj]⟩
    rw [aa] at q1 q2 q3
    generalize ad.st = st at *
    clear lp1 lp2 lp3 W2 W3 W4 W5 f3 f4 f5 k2 k3 hs hs2 fsl c4
    walk_at "go*"
  · refine ⟨S3, A3, ?_, W3.mono (fun _ _ => rfl) (by omega), by rw [f3.len, l2], k3⟩
    have h7 := eq_false h7
    rw [aa] at q1
    generalize ad.st = st at *
    clear lp1 lp2 lp3 W2 W3 f3 k2 k3 hs hs2 fsl c4
    walk_at "go*"

/-! ### the law's lent ranks -/
theorem getK_mem {kvs : List (Key × D)} {k : Key} {d : D} (h : getK kvs k = some d) : (k, d) ∈ kvs := by
  unfold getK at h
  cases e : kvs.find? (fun kv => decide (kv.1 = k)) with
  | none => rw [e] at h; cases h
  | some kv =>
    rw [e] at h
    cases h
    have h1 := List.find?_some e
    have h2 := List.mem_of_find?_eq_some e
    have : kv.1 = k := by simpa using h1
    rw [← this]; exact h2
theorem keyT_mem {kvs : List (Key × D)} {y : Str} {d : D} (h : getK kvs (.inr y) = some d) : y ∈ kvs.map keyT := List.mem_map.mpr ⟨_, getK_mem h, rfl⟩
/-- own ranks: a dict of whole numbers, keys told once -/
structure RkD (kvs : List (Key × D)) (T : List Str) : Prop where
  k : ∀ kv ∈ kvs, ∃ s i, kv.1 = .inr s ∧ kv.2 = .int i ∧ s ∈ T
  u : (kvs.map keyT).Nodup
def rkF (kvs : List (Key × D)) (y : Str) : Option Int := match getK kvs (.inr y) with
  | some (.int i) => some i
  | _ => none
theorem RkD.nil (T : List Str) : RkD [] T := ⟨(fun _ h => by cases h), List.nodup_nil⟩
theorem RkD.keys {kvs : List (Key × D)} {T : List Str} (r : RkD kvs T) : ∀ kv ∈ kvs, ∃ s, kv.1 = .inr s := fun kv h => by obtain ⟨s, _, e, _⟩ := r.k kv h; exact ⟨s, e⟩
theorem RkD.get {kvs : List (Key × D)} {T : List Str} (r : RkD kvs T) (y : Str) : getK kvs (.inr y) = (rkF kvs y).map .int := by
  unfold rkF
  cases e : getK kvs (.inr y) with
  | none => rfl
  | some d =>
    obtain ⟨s, i, _, h, _⟩ := r.k _ (getK_mem e)
    have h : d = .int i := h
    subst h
    rfl
theorem RkD.len {kvs : List (Key × D)} {T : List Str} (r : RkD kvs T) : kvs.length ≤ T.length := by
  have := nodup_le (kvs.map keyT) T r.u (fun x hx => by
    obtain ⟨kv, h1, h2⟩ := List.mem_map.mp hx
    obtain ⟨s, _, e, _, hs⟩ := r.k kv h1
    have : keyT kv = s := by unfold keyT; rw [e]
    rw [← h2, this]; exact hs)
  rw [List.length_map] at this
  exact this
theorem RkD.put {kvs : List (Key × D)} {T : List Str} (r : RkD kvs T) {n : Str} (hn : n ∈ T) (i : Int) : RkD (putD kvs (.inr n) (.int i)) T := by
  constructor
  · intro kv hkv
    unfold putD at hkv
    split at hkv
    · obtain ⟨kv', h1, h2⟩ := List.mem_map.mp hkv
      obtain ⟨s, j, e1, e2, e3⟩ := r.k kv' h1
      by_cases c : kv'.1 = .inr n
      · rw [if_pos c] at h2; rw [← h2]; exact ⟨s, i, e1, rfl, e3⟩
      · rw [if_neg c] at h2; rw [← h2]; exact ⟨s, j, e1, e2, e3⟩
    · rcases List.mem_append.mp hkv with hk | hk
      · exact r.k kv hk
      · simp only [List.mem_cons, List.not_mem_nil, or_false] at hk
        rw [hk]; exact ⟨n, i, rfl, rfl, hn⟩
  · rcases putD_keys (kvs := kvs) n (.int i) with ⟨_, h⟩ | ⟨h1, h⟩
    · rw [h]; exact r.u
    · rw [h, List.map_append, List.nodup_append]
      refine ⟨r.u, by simp, fun x hx y hy e => ?_⟩
      simp only [List.map_cons, List.map_nil, List.mem_cons, List.not_mem_nil, or_false] at hy
      have hy : y = n := hy
      subst hy
      subst e
      have := keyT_get r.keys hx
      rw [h1] at this; cases this
theorem rkF_put {kvs : List (Key × D)} (n : Str) (i : Int) (y : Str) : rkF (putD kvs (.inr n) (.int i)) y = if y = n then some i else rkF kvs y := by
  unfold rkF
  rw [getK_put]
  by_cases c : y = n
  · subst c; rw [if_pos rfl, if_pos rfl]
  · rw [if_neg (by simpa using c), if_neg c]
theorem RkD.same {kvs : List (Key × D)} {T : List Str} (r : RkD kvs T) : eqKK kvs kvs = some true := by
  unfold eqKK
  rw [if_pos rfl]
  have : sameK kvs kvs = true := by
    unfold sameK
    refine List.all_eq_true.mpr fun kv hkv => ?_
    have e := KsT.get ⟨r.keys, r.u⟩ kv hkv
    rw [e]
    obtain ⟨s, i, _, h, _⟩ := r.k kv hkv
    show sameD kv.2 kv.2 = true
    rw [h]
    show decide (i = i) = true
    simp
  rw [if_pos this]
/-- all that waits, and all that holds, has a rank -/
def Ranked (A : LK) (R : Str → Option Int) : Prop := ∀ y z, A.arrow y = some z → (R y).isSome = true ∧ (R z).isSome = true
def Lt (A : LK) (R : Str → Option Int) (y : Str) : Int := (lentS A R 70 y).getD 0
theorem arrow_of {A : LK} (g : Gd A) {y : Str} (h : (A.W y).isSome = true) : ∃ k z, A.W y = some k ∧ A.H k = some z ∧ A.arrow y = some z := by
  obtain ⟨k, hk⟩ := Option.isSome_iff_exists.mp h
  have := g.l k (fun e => by have := g.v y k hk; rw [e] at this; cases this)
  obtain ⟨z, hz⟩ := Option.isSome_iff_exists.mp this
  exact ⟨k, z, hk, hz, by unfold LK.arrow; rw [hk]; exact hz⟩
theorem W_of {A : LK} {y z : Str} (h : A.arrow y = some z) : (A.W y).isSome = true := by
  unfold LK.arrow at h
  cases e : A.W y with
  | none => rw [e] at h; cases h
  | some _ => rfl
theorem Ranked.wn {A : LK} (g : Gd A) {kvs : List (Key × D)} (r : Ranked A (rkF kvs)) : Wn A (kvs.map keyT) := fun y hy => by
  obtain ⟨k, z, _, _, e⟩ := arrow_of g hy
  have := (r y z e).1
  unfold rkF at this
  cases q : getK kvs (.inr y) with
  | none => rw [q] at this; cases this
  | some d => exact keyT_mem q
theorem lent_rounds {h l o w n2 d : Nat} {wk kh : List (Key × D)} {A : LK} {R : Str → Option Int} (ww : ∀ n, getK wk (.inr n) = vS (A.W n)) (wh : ∀ n, getK kh (.inr n) = vS (A.H n)) (kt : ∀ kv ∈ wk, ∃ s, kv.1 = .inr s) (n1 : n2 ≠ w) (n3 : n2 ≠ h) (n4 : w ≠ h)
    (good : ∀ y ∈ wk.map keyT, ∃ k0 z, A.W y = some k0 ∧ A.H k0 = some z ∧ (R y).isSome = true ∧ (R z).isSome = true) : ∀ (xs : List D) (x3 x4 x5 : EV) (T : Store) (bk : List (Key × D)) (B : Str → Int), T[w]? = some (rK wk) → T[h]? = some (rK kh) → T[n2]? = some (rK bk) → bk.length ≤ 1000 → (∀ y, getK bk (.inr y) = (R y).map fun _ => .int (B y)) →
    ∃ bk' y3 y4 y5, forD dn_law_lent_s5 (bName 3) xs [.f (stK h l o w), .f (.obj d), .f (.obj n2), x3, x4, x5] T = .ok (.nx [.f (stK h l o w), .f (.obj d), .f (.obj n2), y3, y4, y5]) (T.set n2 (rK bk')) ∧ bk'.length ≤ 1000 ∧ ∀ y, getK bk' (.inr y) = (R y).map fun _ => .int (rounds A.arrow (wk.map keyT) xs.length B y)
  | [], x3, x4, x5, T, bk, B, h1, h2, h3, h4, h5 => ⟨bk, x3, x4, x5, by rw [set_same h3]; rfl, h4, h5⟩
  | x :: xs, x3, x4, x5, T, bk, B, h1, h2, h3, h4, h5 => by
    obtain ⟨b1, y4, y5, q1, q2, q3⟩ := lent_s5 (l := l) (o := o) (d := d) ww wh kt n1 n3 n4 good (.f x) x4 x5 T bk B h1 h2 h3 h4 h5
    obtain ⟨b2, z3, z4, z5, r1, r2, r3⟩ := lent_rounds (l := l) (o := o) (d := d) ww wh kt n1 n3 n4 good xs (.f x) y4 y5 (T.set n2 (rK b1)) b1 (rlx A.arrow B (wk.map keyT)) (by rw [set_get_ne n1]; exact h1) (by rw [set_get_ne n3]; exact h2) (set_get h3) q2 q3
    refine ⟨b2, z3, z4, z5, ?_, r2, r3⟩
    rw [forD_nx (show bName 3 x [.f (stK h l o w), .f (.obj d), .f (.obj n2), x3, x4, x5] = some [.f (stK h l o w), .f (.obj d), .f (.obj n2), .f x, x4, x5] from rfl) q1, r1, set_set]
theorem Lt_fix {A : LK} (g : Gd A) (ho : Ho A) (ac : Acyc A) {kvs : List (Key × D)} (hl : kvs.length ≤ 69) (rd : Ranked A (rkF kvs)) {x : Str} {r0 : Int} (hx : rkF kvs x = some r0) :
    r0 ≤ Lt A (rkF kvs) x ∧ (∀ y, A.arrow y = some x → Lt A (rkF kvs) y ≤ Lt A (rkF kvs) x) ∧ (Lt A (rkF kvs) x = r0 ∨ ∃ y, A.arrow y = some x ∧ Lt A (rkF kvs) y = Lt A (rkF kvs) x) :=
  lent_fix g ho ac (rd.wn g) (by rw [List.length_map]; exact hl) (fun y ⟨z, e⟩ => (rd y z e).1) hx
theorem llent_ok {S : Store} {h l o w : Nat} {A : LK} {N : Nat} (t : Tabs S h l o w A N) (g : Gd A) (ho : Ho A) (ac : Acyc A) {d : Nat} {kvs : List (Key × D)} {T : List Str} (hd : S[d]? = some (rK kvs)) (hT : T.length ≤ 60) (rk : RkD kvs T) (rd : Ranked A (rkF kvs)) :
    ∃ bk, fn_law_lent [stK h l o w, .obj d] S = .ok (.f (.obj S.length)) (S ++ [rK bk]) ∧ ∀ y, getK bk (.inr y) = (rkF kvs y).map fun _ => .int (Lt A (rkF kvs) y) := by
  obtain ⟨wk, w1, w2, w3, w3k⟩ := t.tw
  obtain ⟨kh, h1, h2, -⟩ := t.th
  have kl := rk.len
  have nw : w < S.length := (List.getElem?_eq_some_iff.mp w1).1
  have nh : h < S.length := (List.getElem?_eq_some_iff.mp h1).1
  have e1 : (S ++ [rK kvs])[w]? = some (rK wk) := by rw [List.getElem?_append_left nw]; exact w1
  have e2 : (S ++ [rK kvs])[h]? = some (rK kh) := by rw [List.getElem?_append_left nh]; exact h1
  have e3 : (S ++ [rK kvs])[S.length]? = some (rK kvs) := by rw [List.getElem?_append_right (Nat.le_refl _), Nat.sub_self]; rfl
  have nd : d < S.length := (List.getElem?_eq_some_iff.mp hd).1
  have ed : (S ++ [rK kvs])[d]? = some (rK kvs) := by rw [List.getElem?_append_left nd]; exact hd
  have good : ∀ y ∈ wk.map keyT, ∃ k0 z, A.W y = some k0 ∧ A.H k0 = some z ∧ (rkF kvs y).isSome = true ∧ (rkF kvs z).isSome = true := fun y hy => by
    have q := keyT_get w3k.k hy
    rw [w2 y, vS_isSome] at q
    obtain ⟨k0, z, a1, a2, a3⟩ := arrow_of g q
    exact ⟨k0, z, a1, a2, (rd y z a3).1, (rd y z a3).2⟩
  obtain ⟨bk, y3, y4, y5, q1, q2, q3⟩ := lent_rounds (l := l) (o := o) (d := d) w2 h2 w3k.k (show S.length ≠ w by omega) (show S.length ≠ h by omega) t.ne.2.2.1.symm good (rng 0 kvs.length) .u .u .u (S ++ [rK kvs]) kvs (fun y => (rkF kvs y).getD 0) e1 e2 e3 (by omega) (fun y => by
    rw [rk.get]
    cases rkF kvs y <;> rfl)
  have s9 : (S ++ [rK kvs]).set S.length (rK bk) = S ++ [rK bk] := by
    rw [List.set_append_right _ _ (Nat.le_refl _), Nat.sub_self]; rfl
  rw [s9] at q1
  refine ⟨bk, ?_, fun y => ?_⟩
  · have u1 : (-1000000 ≤ (kvs.length : Int) ∧ (kvs.length : Int) ≤ 1000000) = True := eq_true ⟨by omega, by omega⟩
    have tn : ((kvs.length : Int)).toNat = kvs.length := Int.toNat_natCast _
    have ll : lenO [.dct kvs] = some (.int kvs.length) := rfl
    unfold fn_law_lent dn_law_lent
    rw [show dn_law_lent_s6 = sFor (iR1 (eCall lenO (aCons (eRd (eVar 1)) (aNil)))) (bName 3) (dn_law_lent_s5) from rfl]
    generalize dn_law_lent_s5 = bd at *
    generalize stK h l o w = st at *
    clear t g ho ac w2 h2 good q3 rd
    walk_at "ev*"
  · rw [q3 y]
    cases e : rkF kvs y with
    | none => rfl
    | some r0 =>
      show some (D.int _) = some (D.int _)
      obtain ⟨dr, d1, d2⟩ := deep_rank ac (rd.wn g)
      rw [List.length_map] at d2
      have fx : ∀ x, (rkF kvs x).isSome = true → (rkF kvs x).getD 0 ≤ Lt A (rkF kvs) x ∧ (Lt A (rkF kvs) x = (rkF kvs x).getD 0 ∨ ∃ y, A.arrow y = some x ∧ Lt A (rkF kvs) y = Lt A (rkF kvs) x) := fun x hx => by
        obtain ⟨r1, hr⟩ := Option.isSome_iff_exists.mp hx
        obtain ⟨z1, _, z3⟩ := Lt_fix g ho ac (by omega) rd hr
        rw [hr]; exact ⟨z1, z3⟩
      have := rounds_is (ar := A.arrow) (L := Lt A (rkF kvs)) (R := fun x => (rkF kvs x).getD 0) (rk := dr) (P := fun x => (rkF kvs x).isSome = true) d1 (fun u z hu => by
          obtain ⟨r1, hr⟩ := Option.isSome_iff_exists.mp (rd u z hu).2
          exact (Lt_fix g ho ac (by omega) rd hr).2.1 u hu) (ys := wk.map keyT) (fun u z hu => by
          have hw := W_of hu
          obtain ⟨k0, hk0⟩ := Option.isSome_iff_exists.mp hw
          exact keyT_mem (d := .str k0) (by rw [w2 u]; show vS (A.W u) = _; rw [hk0]; rfl)) (fun u z hu => (rd u z hu).1) (fun x hx => (fx x hx).2) (rng 0 kvs.length).length 1 (fun x => (rkF kvs x).getD 0) (fun x => by
          by_cases hx : (rkF kvs x).isSome = true
          · exact (fx x hx).1
          · have hx : rkF kvs x = none := by simpa using hx
            show (rkF kvs x).getD 0 ≤ (lentS A (rkF kvs) 70 x).getD 0
            unfold lentS
            rw [hx]; exact Int.le_refl _) (fun x _ => Int.le_refl _) (fun x hx hr => by
          rcases (fx x hx).2 with q | ⟨u, hu, _⟩
          · exact q.symm
          · have := d1 u x hu; omega) y (by rw [e]; rfl) (by rw [rng_len]; have := d2 y; omega)
      rw [this]

/-! ### what stays, all rows -/
theorem flat_len {f : Str → List Str} {n : Nat} (h : ∀ k, (f k).length ≤ n) : ∀ ks : List Str, (ks.flatMap f).length ≤ ks.length * n
  | [] => by simp
  | k :: ks => by
    rw [List.flatMap_cons, List.length_append, List.length_cons, Nat.add_mul, Nat.one_mul]
    have := flat_len h ks
    have := h k
    omega
theorem wtrs_len {A : LK} {n : Nat} (s : Sz A n) (x : Str) : (wtrs A x).length ≤ n * n := Nat.le_trans (flat_len (fun k => s.1 k) _) (Nat.mul_le_mul_right n (s.2 x))
theorem Ws.lt {S : Store} {a : Ad} {A : LK} {T : List Str} {n : Nat} (W : Ws S a A T n) {j : Nat} (h : a.has j) : j < S.length := by
  have b0 := W.i.ob
  obtain ⟨_, i1, -⟩ := W.i.T.th
  obtain ⟨_, i2, -⟩ := W.i.T.tl
  obtain ⟨_, i3, -⟩ := W.i.T.to
  obtain ⟨_, i4, -⟩ := W.i.T.tw
  obtain ⟨_, t1, -⟩ := W.t.th
  obtain ⟨_, t2, -⟩ := W.t.tl
  obtain ⟨_, t3, -⟩ := W.t.to
  obtain ⟨_, t4, -⟩ := W.t.tw
  rcases h with (rfl | rfl | rfl | rfl | rfl) | rfl | rfl | rfl | rfl
  · exact (List.getElem?_eq_some_iff.mp b0).1
  · exact (List.getElem?_eq_some_iff.mp i1).1
  · exact (List.getElem?_eq_some_iff.mp i2).1
  · exact (List.getElem?_eq_some_iff.mp i3).1
  · exact (List.getElem?_eq_some_iff.mp i4).1
  · exact (List.getElem?_eq_some_iff.mp t1).1
  · exact (List.getElem?_eq_some_iff.mp t2).1
  · exact (List.getElem?_eq_some_iff.mp t3).1
  · exact (List.getElem?_eq_some_iff.mp t4).1
theorem Ws.app {S : Store} {a : Ad} {A : LK} {T : List Str} {n : Nat} (W : Ws S a A T n) (S' : Store) (h : ∀ j, j < S.length → S'[j]? = S[j]?) : Ws S' a A T n := W.mono (fun j hj => h j (W.lt hj)) (Nat.le_refl _)
theorem sel_ok (names : List Str) (hl : names.length ≤ 1000) : ∃ xs ys : List Str, Dn.cutD (names.map D.str) none (some 6) = xs.map D.str ∧ Dn.cutD (names.map D.str) (some (-6)) none = ys.map D.str ∧ (xs.length + ys.length ≤ lim) = True ∧ ∀ x ∈ xs ++ ys, x ∈ names := by
  refine ⟨cutL names none (some 6), cutL names (some (-6)) none, by rw [cutD_L, cutL_map], by rw [cutD_L, cutL_map], eq_true ?_, fun x hx => ?_⟩
  · have := cutL_le names none (some 6)
    have := cutL_le names (some (-6)) none
    unfold lim; omega
  · rcases List.mem_append.mp hx with h | h
    · exact cutL_mem h
    · exact cutL_mem h
section
variable {S : Store} {a : Ad} {A : LK} {T : List Str} {n : Nat} (W : Ws S a A T n)
include W
theorem stays_ok (names : List Str) (hl : names.length ≤ 1000) : fn_law_stays [.obj a.b, a.st, .lst (names.map .str)] S = .ok (.f (.bl true)) S := by
  obtain ⟨kh, h1, h2, -⟩ := W.t.th
  obtain ⟨kl, l1, l2, -⟩ := W.t.tl
  obtain ⟨ko, o1, o2, -⟩ := W.t.to
  obtain ⟨kw, w1, w2, -⟩ := W.t.tw
  have g1 : dgetD a.st (.str (Str.ofString "holder")) = some (.obj a.h') := stK_h _ _ _ _
  have g2 : dgetD a.st (.str (Str.ofString "line")) = some (.obj a.l') := stK_l _ _ _ _
  have g3 : dgetD a.st (.str (Str.ofString "held")) = some (.obj a.o') := stK_o _ _ _ _
  have g4 : dgetD a.st (.str (Str.ofString "want")) = some (.obj a.w') := stK_w _ _ _ _
  have b0 := W.i.ob
  have Lc : (locksOb a.h a.l a.o a.w).cls = Str.ofString "Locks" := rfl
  have Lf : (locksOb a.h a.l a.o a.w).fs = [(Str.ofString "holders", FV.f (.obj a.h)), (Str.ofString "lines", FV.f (.obj a.l)), (Str.ofString "owns", FV.f (.obj a.o)), (Str.ofString "wants", FV.f (.obj a.w))] := rfl
  generalize a.st = st at *
  obtain ⟨xs, ys, c1, c2, c3, c4⟩ := sel_ok names hl
  have lp : ∀ (ks : List Str) (e3 e4 : EV), ∃ e3' e4', forD dn_law_stays_b6 (bName 3) (ks.map .str) [.f (.obj a.b), .f st, .f (.lst (names.map .str)), e3, e4] S = .ok (.nx [.f (.obj a.b), .f st, .f (.lst (names.map .str)), e3', e4']) S := by
    intro ks
    induction ks with
    | nil => intro e3 e4; exact ⟨e3, e4, rfl⟩
    | cons x ks ih =>
      intro e3 e4
      have e1 : getK kw (.inr x) = vS (A.W x) := w2 x
      have e2 := vS_getD (A.W x)
      have e5 : getK ko (.inr x) = vL (A.O x) := o2 x
      have e6 := vL_getD (A.O x)
      have e7 := wanted_ok W.i x
      have e8 := held_ok W.i x
      have n1 := neD_sD (A.W x)
      have n2 : neD (.lst (((A.O x).getD []).map D.str)) (.lst (((A.O x).getD []).map D.str)) = some false := neD_self (k := 1) (pl_map (k := 0) fun t ht => W.tk.2 x t ht)
      have bn : bName 3 (.str x) [.f (.obj a.b), .f st, .f (.lst (names.map .str)), e3, e4] = some [.f (.obj a.b), .f st, .f (.lst (names.map .str)), .f (.str x), e4] := rfl
      cases hw : A.W x with
      | none =>
        rw [hw] at e1 e2 e7 n1
        replace e2 : (vS none).getD .non = .non := e2
        replace e7 : fn_Locks_wanted [.obj a.b, .str x] S = .ok (.f .non) S := e7
        replace n1 : neD .non .non = some false := n1
        obtain ⟨e3', e4', q⟩ := ih (.f (.str x)) (.f .non)
        refine ⟨e3', e4', ?_⟩
        have s : dn_law_stays_b6 [.f (.obj a.b), .f st, .f (.lst (names.map .str)), .f (.str x), e4] S = .ok (.ct [.f (.obj a.b), .f st, .f (.lst (names.map .str)), .f (.str x), .f .non]) S := by
          clear ih q W h2 l2 o2 w2 hw c4
          walk_at "go*"
        rw [List.map_cons, forD_cons_S, bn]
        show M.bind _ _ S = _
        rw [bind_ok s]
        exact q
      | some k =>
        rw [hw] at e1 e2 e7 n1
        replace e2 : (vS (some k)).getD .non = .str k := e2
        replace e7 : fn_Locks_wanted [.obj a.b, .str x] S = .ok (.f (.str k)) S := e7
        replace n1 : neD (.str k) (.str k) = some false := n1
        have hv := W.g.v x k hw
        have hne : (A.L k).getD [] ≠ [] := fun e => by rw [e] at hv; cases hv
        obtain ⟨m, hm⟩ := Option.isSome_iff_exists.mp (W.g.l k hne)
        obtain ⟨ls, hls⟩ : ∃ ls, A.L k = some ls := by
          cases q : A.L k with
          | none => rw [q] at hv; cases hv
          | some ls => exact ⟨ls, rfl⟩
        have f1 : getK kh (.inr k) = some (.str m) := (h2 k).trans (by show vS (A.H k) = _; rw [hm]; rfl)
        have f2 : getK kl (.inr k) = some (.lst (ls.map .str)) := (l2 k).trans (by show vL (A.L k) = _; rw [hls]; rfl)
        have f3 := holder_ok W.i k
        have f4 := waiting_ok W.i k
        rw [hm] at f3
        rw [hls] at f4
        replace f3 : fn_Locks_holder [.obj a.b, .str k] S = .ok (.f (.str m)) S := f3
        replace f4 : fn_Locks_waiting [.obj a.b, .str k] S = .ok (.o (ls.map .str)) S := f4
        have n3 : neD (.str m) (.str m) = some false := neD_sD (some m)
        have n4 : neD (.lst (ls.map D.str)) (.lst (ls.map D.str)) = some false := neD_self (k := 1) (pl_map (k := 0) fun t ht => W.tk.1 k t (by rw [hls]; exact ht))
        obtain ⟨e3', e4', q⟩ := ih (.f (.str x)) (.f (.str k))
        refine ⟨e3', e4', ?_⟩
        have s : dn_law_stays_b6 [.f (.obj a.b), .f st, .f (.lst (names.map .str)), .f (.str x), e4] S = .ok (.nx [.f (.obj a.b), .f st, .f (.lst (names.map .str)), .f (.str x), .f (.str k)]) S := by
          clear hne ih q W h2 l2 o2 w2 hw c4 hv hm hls
          walk_at "go*"
        rw [List.map_cons, forD_nx bn s]
        exact q
  obtain ⟨e3', e4', q⟩ := lp (xs ++ ys) .u .u
  rw [List.map_append] at q
  unfold fn_law_stays
  unfold dn_law_stays
  rw [show dn_law_stays_s7 = sFor (iA (eBin addD (eSlA (eVar 2) (oPart none) (oPart (some (eC (.int 6))))) (eSlA (eVar 2) (oPart (some (eNegD (eC (.int 6))))) (oPart none)))) (bName 3) (dn_law_stays_b6) from rfl]
  generalize dn_law_stays_b6 = b6 at *
  clear lp W h2 l2 o2 w2 c4
  walk_at "ev*"
theorem Ws.ranked {kvs : List (Key × D)} (full : ∀ x ∈ T, (rkF kvs x).isSome = true) : Ranked A (rkF kvs) := fun y z e => by
  refine ⟨full y (W.wn y (W_of e)), full z ?_⟩
  unfold LK.arrow at e
  cases q : A.W y with
  | none => rw [q] at e; cases e
  | some k => rw [q] at e; exact W.hn k z e
/-- the program's lent rank -/
theorem lent_ok (hn : n ≤ 300) {d : Nat} {kvs : List (Key × D)} {U : List Str} (hd : S[d]? = some (rK kvs)) (hU : U.length ≤ 60) (rk : RkD kvs U) (rd : Ranked A (rkF kvs)) (x : Str) (hx : (rkF kvs x).isSome = true) : fn_lent [.obj a.b, .obj d, .str x] S = .ok (.f (.int (Lt A (rkF kvs) x))) S := by
  have kl := rk.len
  have hw : ∀ y, (wtrs A y).length ≤ 100000 := fun y => Nat.le_trans (wtrs_len W.sz y) (Nat.le_trans (Nat.mul_le_mul hn hn) (by decide))
  exact lentN_ok W.i hd rk.get hw 70 x _ (lent_all W.g W.ho W.ac (rd.wn W.g) (by rw [List.length_map]; omega) (fun y ⟨z, e⟩ => (rd y z e).1) x hx)
end

/-! ### k16: what is drawn -/
theorem mulX_ok {i j : Int} (h : Builtin.Int.intBits i + Builtin.Int.intBits j ≤ 134217728) : mulXD (.int i) (.int j) = some (.int (i * j)) := by
  exact if_pos h
theorem cell_bits {ns : List Int} (hb : ∀ z ∈ ns, Builtin.Int.intBits z ≤ 1048576) (k : Nat) : Builtin.Int.intBits (cellAt ns k) ≤ 1048576 := by
  unfold cellAt
  rw [List.getD_eq_getElem?_getD]
  cases e : ns[k]? with
  | none => exact Nat.zero_le _
  | some z => exact hb z (List.mem_of_getElem? e)
theorem bits_small {c : Int} (h : c.natAbs < 2 ^ 20) {m : Nat} (hm : 20 ≤ m) : Builtin.Int.intBits c ≤ m := bits_mono (bits_of h) hm
theorem mul_fits {first c d : Int} {m : Nat} (hf : Builtin.Int.intBits first ≤ m) (hc : c.natAbs < 2 ^ 20) (hd : d.natAbs < 2 ^ 20) (hm : 20 ≤ m) (hm2 : m ≤ 60000000) : Builtin.Int.intBits (first + c) + Builtin.Int.intBits (first + c + d) ≤ 134217728 := by
  have h1 := Dn.bits_add hf (bits_small hc hm)
  have h2 := Dn.bits_add h1 (bits_small hd (show 20 ≤ m + 1 by omega))
  omega
theorem mixed_ok (x m : Int) (hm : 0 < m) (S : Store) : fn_law_mixed [.int x, .int m] S = .ok (.f (.int ((x * 48271 + 12345) % 2147483647 % m))) S := by
  have e1 := mulD_r (i := x) (j := 48271) (by decide)
  have e2 := eq_true hm
  unfold fn_law_mixed dn_law_mixed
  generalize hmu : mulD = mu at *
  clear hmu
  walk_at "ev*"
theorem rank_by_ok {c k : Int} (hb : Builtin.Int.intBits c ≤ 50000000) (hk : k.natAbs < 1000) (S : Store) : ∃ r, fn_law_rank_by [.int c, .int k] S = .ok (.f (.int r)) S := by
  have m7 := mulD_l (i := 7) (j := k) (by decide)
  have m11 := mulD_l (i := 11) (j := k) (by decide)
  have x7 := mulX_ok (mul_fits hb (c := 7 * k) (d := 3) (by omega) (by decide) (by decide) (by decide))
  have x11 := mulX_ok (mul_fits hb (c := 11 * k) (d := 1) (by omega) (by decide) (by decide) (by decide))
  have y7 := mixed_ok ((c + 7 * k) * (c + 7 * k + 3)) 6 (by decide) S
  have y11 := mixed_ok ((c + 11 * k) * (c + 11 * k + 1)) 100 (by decide) S
  generalize hv : ((c + 7 * k) * (c + 7 * k + 3) * 48271 + 12345) % 2147483647 % 6 = v at y7
  generalize ((c + 11 * k) * (c + 11 * k + 1) * 48271 + 12345) % 2147483647 % 100 = u at y11
  have hv0 : 0 ≤ v ∧ v < 6 := by omega
  have ix : ∃ r, ixD (.lst [.int 0, .int 99, .int 50, .int 50, .int 99, .int 0]) (.int v) = some (.int r) := by
    obtain ⟨j, rfl⟩ : ∃ j : Nat, v = j := ⟨v.toNat, by omega⟩
    have hj : j < 6 := by omega
    match j, hj with
    | 0, _ => exact ⟨_, rfl⟩
    | 1, _ => exact ⟨_, rfl⟩
    | 2, _ => exact ⟨_, rfl⟩
    | 3, _ => exact ⟨_, rfl⟩
    | 4, _ => exact ⟨_, rfl⟩
    | 5, _ => exact ⟨_, rfl⟩
  obtain ⟨r, ix⟩ := ix
  clear hv hv0 hb hk
  unfold fn_law_rank_by dn_law_rank_by
  generalize hmu : mulD = mu at *
  generalize hmx : mulXD = mx at *
  clear hmu hmx
  by_cases h3 : c % 3 = 0
  · refine ⟨r, ?_⟩
    walk_at "ev*"
  · refine ⟨u, ?_⟩
    walk_at "ev*"
theorem many_by_ok (c : Int) (S : Store) : ∃ m : Nat, fn_law_many_by [.int c] S = .ok (.f (.int (m : Int))) S ∧ 1 ≤ m ∧ m ≤ 60 := by
  unfold fn_law_many_by dn_law_many_by
  by_cases h : c / 7 % 6 = 1
  · obtain ⟨m, hm⟩ : ∃ m : Nat, 1 + c / 42 % 60 = m := ⟨(1 + c / 42 % 60).toNat, by omega⟩
    refine ⟨m, ?_, by omega, by omega⟩
    rw [← hm]
    clear hm
    walk_at "ev*"
  · obtain ⟨m, hm⟩ : ∃ m : Nat, 1 + c % 7 = m := ⟨(1 + c % 7).toNat, by omega⟩
    refine ⟨m, ?_, by omega, by omega⟩
    rw [← hm]
    clear hm
    walk_at "ev*"
theorem names_ok {e : En → M D} {env : En} {S : Store} (m : Nat) (hm : m ≤ 60) (c : Int) (hi : 2 < env.length) (he : ∀ d : D, e (env.set 2 (.f d)) S = .ok (.int c) S) : ∃ names : List Str, lcD (bName 2) tYesD (eFn fn_law_name_by (aCons (eVar 2) (aCons e aNil))) env (rng 0 m) [] S = .ok (names.map .str) S ∧ names.length = m ∧ ∀ t ∈ names, PyData.strOk t = true := by
  obtain ⟨ds, p1, p2, p3⟩ := lcD_ex (b := bName 2) (elt := eFn fn_law_name_by (aCons (eVar 2) (aCons e aNil))) (env := env) (S := S) (fun i : Nat => D.int (0 + (i : Nat))) (fun d => ∃ s : Str, d = .str s ∧ PyData.strOk s = true) (List.range m) [] (fun x hx => by
      obtain ⟨l, q1, _, q2⟩ := name_by_ok x c S
      have q0 : (0 : Int) + (x : Nat) = x := by omega
      rw [← q0] at q1
      have g1 : (env.set 2 (.f (.int (0 + (x : Nat)))))[2]? = some (.f (.int (0 + (x : Nat)))) := List.getElem?_set_self hi
      have g2 := he (.int (0 + (x : Nat)))
      refine ⟨_, .str (tx l), rfl, ?_, _, rfl, low_ok q2⟩
      clear he q0 q2
      walk_at "ev*") (by simp; unfold lim; omega)
  rw [List.nil_append] at p1
  obtain ⟨names, rfl, hs⟩ := map_ex p3
  rw [List.length_map, List.length_range] at p2
  exact ⟨names, p1, p2, hs⟩
theorem ranks_loop {body : En → M Fl} {names : List Str} (hT : names.length ≤ 60) (E : EV → En) (j : Nat) (hb : ∀ i x, bName 2 (.int i) (E x) = some (E (.f (.int i)))) (step : ∀ (k : Nat) (hk : k < names.length) (S : Store) (kvs : List (Key × D)), S[j]? = some (rK kvs) → kvs.length ≤ 60 → ∃ r : Int, body (E (.f (.int (0 + (k : Nat))))) S = .ok (.nx (E (.f (.int (0 + (k : Nat)))))) (S.set j (rK (putD kvs (.inr names[k]) (.int r))))) :
    ∀ (xs : List Nat) (hx : ∀ x ∈ xs, x < names.length) (S : Store) (kvs : List (Key × D)) (x2 : EV), S[j]? = some (rK kvs) → RkD kvs names → ∃ kvs' x2', forD body (bName 2) (xs.map fun i : Nat => D.int (0 + (i : Nat))) (E x2) S = .ok (.nx (E x2')) (S.set j (rK kvs')) ∧ RkD kvs' names ∧ (∀ y, (rkF kvs y).isSome = true → (rkF kvs' y).isSome = true) ∧ ∀ k (hk : k ∈ xs), (rkF kvs' (names[k]'(hx k hk))).isSome = true
  | [], _, S, kvs, x2, h1, h2 => ⟨kvs, x2, by rw [set_same h1]; rfl, h2, fun _ h => h, fun k hk => by cases hk⟩
  | k :: xs, hx, S, kvs, x2, h1, h2 => by
    have hk := hx k List.mem_cons_self
    have kl := h2.len
    obtain ⟨r, st⟩ := step k hk S kvs h1 (by omega)
    obtain ⟨kvs', x2', q1, q2, q3, q4⟩ := ranks_loop hT E j hb step xs (fun x h => hx x (List.mem_cons_of_mem _ h)) (S.set j (rK (putD kvs (.inr names[k]) (.int r)))) (putD kvs (.inr names[k]) (.int r)) (.f (.int (0 + (k : Nat)))) (set_get h1) (h2.put (List.getElem_mem hk) r)
    refine ⟨kvs', x2', ?_, q2, fun y hy => q3 y ?_, fun i hi => ?_⟩
    · rw [List.map_cons, forD_nx (hb _ _) st, q1, set_set]
    · rw [rkF_put]
      split
      · rfl
      · exact hy
    · by_cases c : i = k
      · subst c
        refine q3 _ ?_
        rw [rkF_put, if_pos rfl]; rfl
      · rcases List.mem_cons.mp hi with h | h
        · exact absurd h c
        · exact q4 i h
theorem full_of {names : List Str} {kvs : List (Key × D)} (h : ∀ k (hk : k ∈ List.range names.length), (rkF kvs (names[k]'(by simpa using hk))).isSome = true) : ∀ x ∈ names, (rkF kvs x).isSome = true := fun x hx => by
  obtain ⟨k, hk, rfl⟩ := List.getElem_of_mem hx
  exact h k (by simpa using hk)
theorem has9 : ¬ (adOf 0).has 9 := fun h => by
  rcases h with h | h
  · have h : (9 : Nat) = 0 ∨ 9 = 0 + 1 ∨ 9 = 0 + 2 ∨ 9 = 0 + 3 ∨ 9 = 0 + 4 := h
    omega
  · have h : (9 : Nat) = 0 + 5 ∨ 9 = 0 + 6 ∨ 9 = 0 + 7 ∨ 9 = 0 + 8 := h
    omega
theorem has_lt {j : Nat} (h : (adOf 0).has j) : j < 9 := by
  rcases h with h | h
  · have h : j = 0 ∨ j = 0 + 1 ∨ j = 0 + 2 ∨ j = 0 + 3 ∨ j = 0 + 4 := h
    omega
  · have h : j = 0 + 5 ∨ j = 0 + 6 ∨ j = 0 + 7 ∨ j = 0 + 8 := h
    omega

/-! ### fewer ranks, the same lent ranks -/
theorem fold_eq {f f' : Str → Option Int} : ∀ (ws : List Str) (m : Option Int), (∀ y ∈ ws, f y = f' y) → ws.foldl (fun acc one => acc.bind fun m => (f one).map fun v => if v > m then v else m) m = ws.foldl (fun acc one => acc.bind fun m => (f' one).map fun v => if v > m then v else m) m
  | [], _, _ => rfl
  | y :: ws, m, h => by
    rw [List.foldl_cons, List.foldl_cons, fold_eq ws _ fun z hz => h z (List.mem_cons_of_mem _ hz), h y List.mem_cons_self]
theorem lent_few {A : LK} (g : Gd A) (ho : Ho A) {F R : Str → Option Int} (h : ∀ y z, A.arrow y = some z → F y = R y) : ∀ (n : Nat) (x : Str), F x = R x → lentS A F n x = lentS A R n x
  | 0, _, _ => rfl
  | n + 1, x, hx => by
    unfold lentS
    rw [hx]
    congr 1
    funext r
    exact fold_eq _ _ fun y hy => lent_few g ho h n y (h y x ((mem_wtrs g ho).mp hy))
/-- the few: who holds, who waits (and more) -/
theorem few_loop {body : En → M Fl} {i : Nat} (E : EV → En) {f d : Nat} (hf : f ≠ d) {kvs : List (Key × D)} {T : List Str} (rk : RkD kvs T) (hT : T.length ≤ 60) (hb : ∀ (y : Str) x, bName i (.str y) (E x) = some (E (.f (.str y)))) (step : ∀ (y : Str) (r : Int) (S : Store) (fk : List (Key × D)), getK kvs (.inr y) = some (.int r) → S[f]? = some (rK fk) → S[d]? = some (rK kvs) → fk.length ≤ 60 → body (E (.f (.str y))) S = .ok (.nx (E (.f (.str y)))) (S.set f (rK (putD fk (.inr y) (.int r))))) :
    ∀ (xs : List Str) (S : Store) (fk : List (Key × D)) (x5 : EV), (∀ y ∈ xs, y ∈ T ∧ (rkF kvs y).isSome = true) → S[f]? = some (rK fk) → S[d]? = some (rK kvs) → RkD fk T → (∀ y, (rkF fk y).isSome = true → rkF fk y = rkF kvs y) → ∃ fk' x5', forD body (bName i) (xs.map .str) (E x5) S = .ok (.nx (E x5')) (S.set f (rK fk')) ∧ RkD fk' T ∧ (∀ y, (rkF fk' y).isSome = true → rkF fk' y = rkF kvs y) ∧ (∀ y, (rkF fk y).isSome = true → (rkF fk' y).isSome = true) ∧ ∀ y ∈ xs, (rkF fk' y).isSome = true
  | [], S, fk, x5, _, h1, h2, h3, h4 => ⟨fk, x5, by rw [set_same h1]; rfl, h3, h4, fun _ h => h, fun y h => by cases h⟩
  | y :: xs, S, fk, x5, hx, h1, h2, h3, h4 => by
    obtain ⟨hy, hr⟩ := hx y List.mem_cons_self
    obtain ⟨r, hr⟩ := Option.isSome_iff_exists.mp hr
    have kl := h3.len
    have st := step y r S fk (by rw [rk.get, hr]; rfl) h1 h2 (by omega)
    obtain ⟨fk', x5', q1, q2, q3, q4, q5⟩ := few_loop E hf rk hT hb step xs (S.set f (rK (putD fk (.inr y) (.int r)))) (putD fk (.inr y) (.int r)) (.f (.str y)) (fun z hz => hx z (List.mem_cons_of_mem _ hz)) (set_get h1) (by rw [set_get_ne hf]; exact h2) (h3.put hy r) (fun z hz => by
      rw [rkF_put] at hz ⊢
      by_cases c : z = y
      · rw [if_pos c, c, hr]
      · rw [if_neg c] at hz ⊢; exact h4 z hz)
    refine ⟨fk', x5', ?_, q2, q3, fun z hz => q4 z ?_, fun z hz => ?_⟩
    · rw [List.map_cons, forD_nx (hb _ _) st, q1, set_set]
    · rw [rkF_put]
      split
      · rfl
      · exact hz
    · rcases List.mem_cons.mp hz with rfl | hz
      · refine q4 z ?_
        rw [rkF_put, if_pos rfl]; rfl
      · exact q5 z hz
/-- the values of the dict of holders, the keys of the dict of wants -/
theorem vals_T {kh : List (Key × D)} {f : Str → Option Str} (h2 : ∀ n, getK kh (.inr n) = vS (f n)) (k : KsT kh) : ∃ hs : List Str, kh.map (·.2) = hs.map D.str ∧ hs.length = kh.length ∧ (∀ m ∈ hs, ∃ n, f n = some m) ∧ ∀ n m, f n = some m → m ∈ hs := by
  have p : ∀ kv ∈ kh, ∃ n m, kv = (.inr n, .str m) ∧ f n = some m := fun kv hkv => by
    obtain ⟨n, hn⟩ := k.k kv hkv
    have e := k.get kv hkv
    rw [hn, h2 n] at e
    cases q : f n with
    | none => rw [q] at e; cases e
    | some m =>
      rw [q] at e
      have e : some (D.str m) = some kv.2 := e
      cases kv
      cases hn
      cases e
      exact ⟨n, m, rfl, q⟩
  refine ⟨kh.map fun kv => match kv.2 with
    | .str m => m
    | _ => "", ?_, by simp, fun m hm => ?_, fun n m e => ?_⟩
  · rw [List.map_map]
    refine List.map_congr_left fun kv hkv => ?_
    obtain ⟨n, m, rfl, _⟩ := p kv hkv
    rfl
  · obtain ⟨kv, h3, h4⟩ := List.mem_map.mp hm
    obtain ⟨n, m', rfl, q⟩ := p kv h3
    have h4 : m' = m := h4
    rw [← h4]; exact ⟨n, q⟩
  · have := getK_mem (show getK kh (.inr n) = some (.str m) from (h2 n).trans (by rw [e]; rfl))
    exact List.mem_map.mpr ⟨_, this, rfl⟩

/-! ### heirs -/
def heirT (L : Str → Int) (f : Option Str) (y : Str) : Option Str := match f with
  | none => some y
  | some x => if L y > L x then some y else some x
def heirF (L : Str → Int) (ws : List Str) : Option Str := ws.foldl (heirT L) none
theorem heirT_mem {L : Str → Int} : ∀ (ws : List Str) (f : Option Str) (x : Str), ws.foldl (heirT L) f = some x → f = some x ∨ x ∈ ws
  | [], f, x, h => .inl h
  | y :: ws, f, x, h => by
    rw [List.foldl_cons] at h
    rcases heirT_mem ws _ x h with h | h
    · cases f with
      | none => cases h; exact .inr List.mem_cons_self
      | some z =>
        have h : (if L y > L z then some y else some z) = some x := h
        by_cases c : L y > L z
        · rw [if_pos c] at h; cases h; exact .inr List.mem_cons_self
        · rw [if_neg c] at h; exact .inl h
    · exact .inr (List.mem_cons_of_mem _ h)
theorem heirF_mem {L : Str → Int} {ws : List Str} {x : Str} (h : heirF L ws = some x) : x ∈ ws := by
  rcases heirT_mem ws none x h with h | h
  · cases h
  · exact h
theorem heirT_some {L : Str → Int} : ∀ (ws : List Str) (x : Str), (ws.foldl (heirT L) (some x)).isSome = true
  | [], _ => rfl
  | y :: ws, x => by
    rw [List.foldl_cons]
    show (ws.foldl (heirT L) (if L y > L x then some y else some x)).isSome = true
    split
    · exact heirT_some ws y
    · exact heirT_some ws x
theorem heirF_none {L : Str → Int} {ws : List Str} (h : heirF L ws = none) : ws = [] := by
  cases ws with
  | nil => rfl
  | cons y ws =>
    have := heirT_some (L := L) ws y
    have h : ws.foldl (heirT L) (some y) = none := h
    rw [h] at this; cases this
def bestF (L : Str → Int) : Option Str → Int
  | none => -1
  | some x => L x
theorem heir_ok {S : Store} {b h l o w : Nat} {A : LK} {N : Nat} (i : InvL S b h l o w A N) {d : Nat} (k : Str) {L : Str → Int} (hl : ∀ y ∈ (A.L k).getD [], fn_lent [.obj b, .obj d, .str y] S = .ok (.f (.int (L y))) S ∧ 0 ≤ L y) : fn_heir [.obj b, .obj d, .str k] S = .ok (.f (sD (heirF L ((A.L k).getD [])))) S := by
  have wt := waiting_ok i k
  have h0 := i.ob
  have Lc : (locksOb h l o w).cls = Str.ofString "Locks" := rfl
  have Lf : (locksOb h l o w).fs = [(Str.ofString "holders", FV.f (.obj h)), (Str.ofString "lines", FV.f (.obj l)), (Str.ofString "owns", FV.f (.obj o)), (Str.ofString "wants", FV.f (.obj w))] := rfl
  obtain ⟨B, hB⟩ : ∃ B, B = (sCons (sSet 6 (eFn (fn_lent) (aCons (eVar 0) (aCons (eVar 1) (aCons (eVar 5) (aNil)))))) (sIf (tBin gtD (eVar 6) (eVar 4)) (sCons (sSet 4 (eVar 6)) (sSet 3 (eVar 5))) (sNil))) := ⟨_, rfl⟩
  have lp : ∀ (ws : List Str) (f : Option Str) (x5 x6 : EV), (∀ y ∈ ws, fn_lent [.obj b, .obj d, .str y] S = .ok (.f (.int (L y))) S ∧ 0 ≤ L y) → ∃ x5' x6', forD B (bName 5) (ws.map .str) [.f (.obj b), .f (.obj d), .f (.str k), .f (sD f), .f (.int (bestF L f)), x5, x6] S = .ok (.nx [.f (.obj b), .f (.obj d), .f (.str k), .f (sD (ws.foldl (heirT L) f)), .f (.int (bestF L (ws.foldl (heirT L) f))), x5', x6']) S := by
    intro ws
    induction ws with
    | nil => intro f x5 x6 _; exact ⟨x5, x6, rfl⟩
    | cons y ws ih =>
      intro f x5 x6 hw
      obtain ⟨ly, l0⟩ := hw y List.mem_cons_self
      obtain ⟨x5', x6', q⟩ := ih (heirT L f y) (.f (.str y)) (.f (.int (L y))) fun z hz => hw z (List.mem_cons_of_mem _ hz)
      refine ⟨x5', x6', ?_⟩
      have stp : B [.f (.obj b), .f (.obj d), .f (.str k), .f (sD f), .f (.int (bestF L f)), .f (.str y), x6] S = .ok (.nx [.f (.obj b), .f (.obj d), .f (.str k), .f (sD (heirT L f y)), .f (.int (bestF L (heirT L f y))), .f (.str y), .f (.int (L y))]) S := by
        rw [hB]
        clear ih q hw i hl hB wt h0 Lf Lc
        cases f with
        | none =>
          have c : ((-1 : Int) < L y) = True := eq_true (by omega)
          show _ = Dn.R.ok (Fl.nx [.f (.obj b), .f (.obj d), .f (.str k), .f (.str y), .f (.int (L y)), .f (.str y), .f (.int (L y))]) S
          rw [show sD none = D.non from rfl, show bestF L none = -1 from rfl]
          generalize L y = r at *
          walk_at "ev*"
        | some x =>
          rw [show sD (some x) = D.str x from rfl, show bestF L (some x) = L x from rfl]
          by_cases c : L y > L x
          · rw [show heirT L (some x) y = some y from if_pos c]
            show _ = Dn.R.ok (Fl.nx [.f (.obj b), .f (.obj d), .f (.str k), .f (.str y), .f (.int (L y)), .f (.str y), .f (.int (L y))]) S
            have c : (L x < L y) = True := eq_true c
            generalize L y = r at *
            walk_at "ev*"
          · rw [show heirT L (some x) y = some x from if_neg c]
            show _ = Dn.R.ok (Fl.nx [.f (.obj b), .f (.obj d), .f (.str k), .f (.str x), .f (.int (L x)), .f (.str y), .f (.int (L y))]) S
            have c : (L x < L y) = False := eq_false c
            generalize L y = r at *
            walk_at "ev*"
      rw [List.map_cons, List.foldl_cons, forD_nx (show bName 5 (.str y) [.f (.obj b), .f (.obj d), .f (.str k), .f (sD f), .f (.int (bestF L f)), x5, x6] = some [.f (.obj b), .f (.obj d), .f (.str k), .f (sD f), .f (.int (bestF L f)), .f (.str y), x6] from rfl) stp]
      exact q
  obtain ⟨x5, x6, q⟩ := lp ((A.L k).getD []) none .u .u hl
  replace q : forD B (bName 5) (((A.L k).getD []).map .str) [.f (.obj b), .f (.obj d), .f (.str k), .f .non, .f (.int (-1)), .u, .u] S = .ok (.nx [.f (.obj b), .f (.obj d), .f (.str k), .f (sD (heirF L ((A.L k).getD []))), .f (.int (bestF L (heirF L ((A.L k).getD [])))), x5, x6]) S := q
  unfold fn_heir dn_heir
  rw [← hB]
  clear lp hl i hB
  generalize sD (heirF L ((A.L k).getD [])) = r at *
  walk_at "ev*"

/-! ### the law's heir -/
theorem lheir_ok {S : Store} {h l o w : Nat} {A : LK} {N : Nat} (t : Tabs S h l o w A N) {d : Nat} {bk : List (Key × D)} {L : Str → Int} (k : Str) (hb : fn_law_lent [stK h l o w, .obj d] S = .ok (.f (.obj S.length)) (S ++ [rK bk])) (hL : ∀ y ∈ (A.L k).getD [], getK bk (.inr y) = some (.int (L y))) : fn_law_heir [stK h l o w, .obj d, .str k] S = .ok (.f (sD (heirF L ((A.L k).getD [])))) (S ++ [rK bk]) := by
  obtain ⟨kl, l1, l2, -⟩ := t.tl
  have g2 := stK_l h l o w
  have nl : l < S.length := (List.getElem?_eq_some_iff.mp l1).1
  have e0 : (S ++ [rK bk])[l]? = some (rK kl) := by rw [List.getElem?_append_left nl]; exact l1
  have eb : (S ++ [rK bk])[S.length]? = some (rK bk) := by rw [List.getElem?_append_right (Nat.le_refl _), Nat.sub_self]; rfl
  have e3 : getK kl (.inr k) = vL (A.L k) := l2 k
  have e4 := vL_getD (A.L k)
  generalize stK h l o w = st at *
  obtain ⟨S1, hS1⟩ : ∃ S1 : Store, S ++ [rK bk] = S1 := ⟨_, rfl⟩
  rw [hS1] at e0 eb hb ⊢
  have lp : ∀ (ws : List Str) (f : Option Str) (x5 : EV), (∀ y ∈ ws, getK bk (.inr y) = some (.int (L y))) → (∀ x, f = some x → getK bk (.inr x) = some (.int (L x))) → ∃ x5', forD dn_law_heir_s3 (bName 5) (ws.map .str) [.f st, .f (.obj d), .f (.str k), .f (.obj S.length), .f (sD f), x5] S1 = .ok (.nx [.f st, .f (.obj d), .f (.str k), .f (.obj S.length), .f (sD (ws.foldl (heirT L) f)), x5']) S1 := by
    intro ws
    induction ws with
    | nil => intro f x5 _ _; exact ⟨x5, rfl⟩
    | cons y ws ih =>
      intro f x5 hw hf
      have ly := hw y List.mem_cons_self
      obtain ⟨x5', q⟩ := ih (heirT L f y) (.f (.str y)) (fun z hz => hw z (List.mem_cons_of_mem _ hz)) (fun x hx => by
        rcases heirT_mem [y] f x hx with h | h
        · exact hf x h
        · simp only [List.mem_cons, List.not_mem_nil, or_false] at h
          rw [h]; exact ly)
      refine ⟨x5', ?_⟩
      have stp : dn_law_heir_s3 [.f st, .f (.obj d), .f (.str k), .f (.obj S.length), .f (sD f), .f (.str y)] S1 = .ok (.nx [.f st, .f (.obj d), .f (.str k), .f (.obj S.length), .f (sD (heirT L f y)), .f (.str y)]) S1 := by
        clear ih q hw t hb hL hS1 e0 e3 e4 l1 l2 g2
        cases f with
        | none =>
          show _ = Dn.R.ok (Fl.nx [.f st, .f (.obj d), .f (.str k), .f (.obj S.length), .f (.str y), .f (.str y)]) S1
          rw [show sD none = D.non from rfl]
          walk_at "go*"
        | some x =>
          have lx := hf x rfl
          rw [show sD (some x) = D.str x from rfl]
          by_cases c : L y > L x
          · rw [show heirT L (some x) y = some y from if_pos c]
            show _ = Dn.R.ok (Fl.nx [.f st, .f (.obj d), .f (.str k), .f (.obj S.length), .f (.str y), .f (.str y)]) S1
            have c : (L x < L y) = True := eq_true c
            clear hf
            generalize L y = r at *
            walk_at "go*"
          · rw [show heirT L (some x) y = some x from if_neg c]
            show _ = Dn.R.ok (Fl.nx [.f st, .f (.obj d), .f (.str k), .f (.obj S.length), .f (.str x), .f (.str y)]) S1
            have c : (L x < L y) = False := eq_false c
            clear hf
            generalize L y = r at *
            walk_at "go*"
      rw [List.map_cons, List.foldl_cons, forD_nx (show bName 5 (.str y) [.f st, .f (.obj d), .f (.str k), .f (.obj S.length), .f (sD f), x5] = some [.f st, .f (.obj d), .f (.str k), .f (.obj S.length), .f (sD f), .f (.str y)] from rfl) stp]
      exact q
  obtain ⟨x5, q⟩ := lp ((A.L k).getD []) none .u hL (fun x h => by cases h)
  replace q : forD dn_law_heir_s3 (bName 5) (((A.L k).getD []).map .str) [.f st, .f (.obj d), .f (.str k), .f (.obj S.length), .f .non, .u] S1 = .ok (.nx [.f st, .f (.obj d), .f (.str k), .f (.obj S.length), .f (sD (heirF L ((A.L k).getD []))), x5]) S1 := q
  generalize sD (heirF L ((A.L k).getD [])) = r at *
  have s1 : dn_law_heir_s1 [.f st, .f (.obj d), .f (.str k), .u, .u, .u] S = .ok (.nx [.f st, .f (.obj d), .f (.str k), .f (.obj S.length), .u, .u]) S1 := by
    clear lp q t hL hS1 e0 e3 e4 l1 l2 g2
    walk_at "go*"
  have s4 : dn_law_heir_s4 [.f st, .f (.obj d), .f (.str k), .f (.obj S.length), .f .non, .u] S1 = .ok (.nx [.f st, .f (.obj d), .f (.str k), .f (.obj S.length), .f r, x5]) S1 := by
    rw [dn_law_heir_s4_S]
    generalize dn_law_heir_s3 = b3 at *
    clear lp t hL hS1 l1 l2 s1 hb
    walk_at "ev*"
  unfold fn_law_heir dn_law_heir
  generalize dn_law_heir_s1 = y1 at *
  generalize dn_law_heir_s4 = y4 at *
  clear lp t hL hS1 l1 l2 hb q e0 e3 e4
  walk_at "ev*"
/-- ranks from nought on -/
def Nn (kvs : List (Key × D)) : Prop := ∀ y r, rkF kvs y = some r → 0 ≤ r
theorem Lt_nn {A : LK} (g : Gd A) (ho : Ho A) (ac : Acyc A) {kvs : List (Key × D)} (hl : kvs.length ≤ 69) (rd : Ranked A (rkF kvs)) (nn : Nn kvs) {x : Str} (hx : (rkF kvs x).isSome = true) : 0 ≤ Lt A (rkF kvs) x := by
  obtain ⟨r, hr⟩ := Option.isSome_iff_exists.mp hx
  have := (Lt_fix g ho ac hl rd hr).1
  have := nn x r hr
  omega
section
variable {S : Store} {a : Ad} {A : LK} {T : List Str} {n : Nat} (W : Ws S a A T n)
include W
theorem Ws.lineT {k y : Str} (h : y ∈ (A.L k).getD []) : y ∈ T := W.wn y (by rw [W.g.w k y h]; rfl)
theorem heirs_ok (hn : n ≤ 300) (hT : T.length ≤ 60) {d : Nat} {kvs : List (Key × D)} (hd : S[d]? = some (rK kvs)) (rk : RkD kvs T) (full : ∀ x ∈ T, (rkF kvs x).isSome = true) (nn : Nn kvs) (k : Str) :
    fn_heir [.obj a.b, .obj d, .str k] S = .ok (.f (sD (heirF (Lt A (rkF kvs)) ((A.L k).getD [])))) S ∧ ∃ bk, fn_law_heir [a.st, .obj d, .str k] S = .ok (.f (sD (heirF (Lt A (rkF kvs)) ((A.L k).getD [])))) (S ++ [rK bk]) := by
  have rd := W.ranked full
  have kl := rk.len
  refine ⟨heir_ok W.i k fun y hy => ⟨lent_ok W hn hd hT rk rd y (full y (W.lineT hy)), Lt_nn W.g W.ho W.ac (by omega) rd nn (full y (W.lineT hy))⟩, ?_⟩
  obtain ⟨bk, m1, m2⟩ := llent_ok W.t W.g W.ho W.ac hd hT rk rd
  refine ⟨bk, lheir_ok W.t k m1 fun y hy => ?_⟩
  rw [m2]
  have := full y (W.lineT hy)
  cases e : rkF kvs y with
  | none => rw [e] at this; cases this
  | some _ => rfl
end

/-! ### k17: one lock given to its heir -/
structure S17 (S : Store) (A : LK) (T : List Str) (n : Nat) (kr ko : List (Key × D)) : Prop where
  W : Ws S (adOf 0) A T n
  r9 : S[9]? = some (rK kr)
  r10 : S[10]? = some (rK kr)
  r11 : S[11]? = some (rK ko)
theorem has_ge {j : Nat} (h : 9 ≤ j) : ¬ (adOf 0).has j := fun z => by
  rcases z with z | z
  · have z : j = 0 ∨ j = 0 + 1 ∨ j = 0 + 2 ∨ j = 0 + 3 ∨ j = 0 + 4 := z
    omega
  · have z : j = 0 + 5 ∨ j = 0 + 6 ∨ j = 0 + 7 ∨ j = 0 + 8 := z
    omega
section
variable {S : Store} {A : LK} {T : List Str} {n : Nat} {kr ko : List (Key × D)} (s : S17 S A T n kr ko)
include s
theorem S17.app {S' : Store} (h : ∀ j, j < S.length → S'[j]? = S[j]?) : S17 S' A T n kr ko :=
  have l : ∀ {i ob}, S[i]? = some ob → i < S.length := fun e => (List.getElem?_eq_some_iff.mp e).1
  ⟨s.W.app S' h, by rw [h 9 (l s.r9)]; exact s.r9, by rw [h 10 (l s.r10)]; exact s.r10, by rw [h 11 (l s.r11)]; exact s.r11⟩
theorem S17.app1 (ob : Ob) : S17 (S ++ [ob]) A T n kr ko := s.app fun j hj => List.getElem?_append_left hj
theorem S17.fs {S' : Store} {A' : LK} {n' : Nat} (W : Ws S' (adOf 0) A' T n') (f : Fs S S' (adOf 0)) : S17 S' A' T n' kr ko :=
  ⟨W, by rw [f.eq 9 (has_ge (by decide))]; exact s.r9, by rw [f.eq 10 (has_ge (by decide))]; exact s.r10, by rw [f.eq 11 (has_ge (by decide))]; exact s.r11⟩
end
theorem neD_sD' (o : Option Str) : neD (sD o) (sD o) = some false := neD_sD o
theorem step17 {S : Store} {A : LK} {T some' : List Str} {n : Nat} {kr ko : List (Key × D)} (s : S17 S A T n kr ko) {ns : List Int} {m : Nat} {cl4 : Int} (c4 : ∀ S, fn_law_cell_at [.scr ns, .int 4] S = .ok (.f (.int cl4)) S) (hn : n ≤ 250) (hT : T.length ≤ 60) (hm : some'.length = m) (hm0 : 0 < m) (hs2 : ∀ t ∈ some', PyData.strOk t = true)
    (rk : RkD kr T) (full : ∀ x ∈ T, (rkF kr x).isSome = true) (nn : Nn kr) (ok : RkD ko T) (full2 : ∀ x ∈ T, (rkF ko x).isSome = true) (nn2 : Nn ko) (kk : Int) (x10 x11 x12 x13 x14 x15 x16 : EV) :
    ∃ y10 y11 y12 y13 y14 y15 S' A', dn_law_b25 [.f (.scr ns), .f (.int m), .f (.int kk), .f (.lst (T.map .str)), .f (.lst (some'.map .str)), .f (.obj 0), .f (adOf 0).st, .f (.obj 9), .f (.obj 10), .f (.obj 11), x10, x11, x12, x13, x14, x15, x16] S = .ok (.nx [.f (.scr ns), .f (.int m), .f (.int kk), .f (.lst (T.map .str)), .f (.lst (some'.map .str)), .f (.obj 0), .f (adOf 0).st, .f (.obj 9), .f (.obj 10), .f (.obj 11), y10, y11, y12, y13, y14, y15, x16]) S' ∧ S17 S' A' T (n + 1) kr ko := by
  have p1 : ((0 : Int) < (m : Int)) = True := eq_true (by omega)
  obtain ⟨y, hy, i1⟩ := names_at (names := some') hm hm0 (kk + cl4)
  -- s9
  have c4a := c4 S
  generalize hst : (adOf 0).st = st at *
  have s9 : dn_law_s9 [.f (.scr ns), .f (.int m), .f (.int kk), .f (.lst (T.map .str)), .f (.lst (some'.map .str)), .f (.obj 0), .f st, .f (.obj 9), .f (.obj 10), .f (.obj 11), x10, x11, x12, x13, x14, x15, x16] S = .ok (.nx [.f (.scr ns), .f (.int m), .f (.int kk), .f (.lst (T.map .str)), .f (.lst (some'.map .str)), .f (.obj 0), .f st, .f (.obj 9), .f (.obj 10), .f (.obj 11), .f (.str y), x11, x12, x13, x14, x15, x16]) S := by
    clear s rk full nn ok full2 nn2 hs2 c4
    walk_at "go*"
  rw [dn_law_b25_S, sCons_nx' s9]
  clear s9 c4a i1
  -- s10, s11
  obtain ⟨-, b1, h1⟩ := heirs_ok s.W (by omega) hT s.r9 rk full nn y
  have sA := s.app1 (rK b1)
  obtain ⟨h2, -⟩ := heirs_ok sA.W (by omega) hT sA.r10 rk full nn y
  obtain ⟨h3, b2, h4⟩ := heirs_ok sA.W (by omega) hT sA.r11 ok full2 nn2 y
  rw [hst] at h1 h4
  replace h1 : fn_law_heir [st, .obj 9, .str y] S = .ok (.f (sD (heirF (Lt A (rkF kr)) ((A.L y).getD [])))) (S ++ [rK b1]) := h1
  replace h2 : fn_heir [.obj 0, .obj 10, .str y] (S ++ [rK b1]) = .ok (.f (sD (heirF (Lt A (rkF kr)) ((A.L y).getD [])))) (S ++ [rK b1]) := h2
  replace h3 : fn_heir [.obj 0, .obj 11, .str y] (S ++ [rK b1]) = .ok (.f (sD (heirF (Lt A (rkF ko)) ((A.L y).getD [])))) (S ++ [rK b1]) := h3
  replace h4 : fn_law_heir [st, .obj 11, .str y] (S ++ [rK b1]) = .ok (.f (sD (heirF (Lt A (rkF ko)) ((A.L y).getD [])))) (S ++ [rK b1] ++ [rK b2]) := h4
  have heq : ∀ x, heirF (Lt A (rkF kr)) ((A.L y).getD []) = some x → x ∈ (A.L y).getD [] := fun x h => heirF_mem h
  have hno : heirF (Lt A (rkF kr)) ((A.L y).getD []) = none → (A.L y).getD [] = [] := fun h => heirF_none h
  generalize heirF (Lt A (rkF kr)) ((A.L y).getD []) = due at *
  generalize heirF (Lt A (rkF ko)) ((A.L y).getD []) = due2 at *
  have s10 : dn_law_s10 [.f (.scr ns), .f (.int m), .f (.int kk), .f (.lst (T.map .str)), .f (.lst (some'.map .str)), .f (.obj 0), .f st, .f (.obj 9), .f (.obj 10), .f (.obj 11), .f (.str y), x11, x12, x13, x14, x15, x16] S = .ok (.nx [.f (.scr ns), .f (.int m), .f (.int kk), .f (.lst (T.map .str)), .f (.lst (some'.map .str)), .f (.obj 0), .f st, .f (.obj 9), .f (.obj 10), .f (.obj 11), .f (.str y), .f (sD due), x12, x13, x14, x15, x16]) (S ++ [rK b1]) := by
    generalize sD due = sd at *
    clear s sA rk full nn ok full2 nn2 hs2 c4 h2 h3 h4 heq hno
    walk_at "go*"
  rw [sCons_nx' s10]
  have s11 : dn_law_s11 [.f (.scr ns), .f (.int m), .f (.int kk), .f (.lst (T.map .str)), .f (.lst (some'.map .str)), .f (.obj 0), .f st, .f (.obj 9), .f (.obj 10), .f (.obj 11), .f (.str y), .f (sD due), x12, x13, x14, x15, x16] (S ++ [rK b1]) = .ok (.nx [.f (.scr ns), .f (.int m), .f (.int kk), .f (.lst (T.map .str)), .f (.lst (some'.map .str)), .f (.obj 0), .f st, .f (.obj 9), .f (.obj 10), .f (.obj 11), .f (.str y), .f (sD due), .f (sD due), x13, x14, x15, x16]) (S ++ [rK b1]) := by
    generalize sD due = sd at *
    clear s sA rk full nn ok full2 nn2 hs2 c4 h1 h3 h4 heq hno s10
    walk_at "go*"
  rw [sCons_nx' s11]
  clear s10 s11 h1 h2
  have s13 : dn_law_s13 [.f (.scr ns), .f (.int m), .f (.int kk), .f (.lst (T.map .str)), .f (.lst (some'.map .str)), .f (.obj 0), .f st, .f (.obj 9), .f (.obj 10), .f (.obj 11), .f (.str y), .f (sD due), .f (sD due), x13, x14, x15, x16] (S ++ [rK b1]) = .ok (.nx [.f (.scr ns), .f (.int m), .f (.int kk), .f (.lst (T.map .str)), .f (.lst (some'.map .str)), .f (.obj 0), .f st, .f (.obj 9), .f (.obj 10), .f (.obj 11), .f (.str y), .f (sD due), .f (sD due), x13, x14, x15, x16]) (S ++ [rK b1]) := by
    have q := neD_sD due
    have k2 : kitB "str" "str" = some true := by decide
    clear s sA rk full nn ok full2 nn2 hs2 c4 h3 h4 heq hno
    cases due with
    | none =>
      rw [show sD none = D.non from rfl] at q ⊢
      walk_at "go*"
    | some x =>
      rw [show sD (some x) = D.str x from rfl] at q ⊢
      walk_at "go*"
  rw [sCons_nx' s13]
  clear s13
  have sB := sA.app1 (rK b2)
  obtain ⟨S2, hS2⟩ : ∃ S2 : Store, S ++ [rK b1] ++ [rK b2] = S2 := ⟨_, rfl⟩
  rw [hS2] at sB h4
  have hb : (S2 ++ [(⟨"Locks", []⟩ : Ob)])[S2.length]? = some ⟨"Locks", []⟩ := by rw [List.getElem?_append_right (Nat.le_refl _), Nat.sub_self]; rfl
  obtain ⟨S3, j1, j2, j3, j4⟩ := linit_ok hb
  have sC : S17 S3 A T n kr ko := sB.app fun j hj => by rw [j4 j (by omega) (by simp; omega), List.getElem?_append_left hj]
  have h5 := heir_ok (d := 10) j2 (L := fun _ => 0) y (fun z hz => by cases hz)
  replace h5 : fn_heir [.obj S2.length, .obj 10, .str y] S3 = .ok (.f .non) S3 := h5
  have s15 : dn_law_s15 [.f (.scr ns), .f (.int m), .f (.int kk), .f (.lst (T.map .str)), .f (.lst (some'.map .str)), .f (.obj 0), .f st, .f (.obj 9), .f (.obj 10), .f (.obj 11), .f (.str y), .f (sD due), .f (sD due), x13, x14, x15, x16] (S ++ [rK b1]) = .ok (.nx [.f (.scr ns), .f (.int m), .f (.int kk), .f (.lst (T.map .str)), .f (.lst (some'.map .str)), .f (.obj 0), .f st, .f (.obj 9), .f (.obj 10), .f (.obj 11), .f (.str y), .f (sD due), .f (sD due), x13, x14, x15, x16]) S3 := by
    have q := neD_sD due2
    generalize sD due2 = sd2 at *
    generalize sD due = sd at *
    clear s sA sB sC rk full nn ok full2 nn2 hs2 c4 heq hno j2 j3 j4 hb hS2
    walk_at "go*"
  rw [sCons_nx' s15]
  clear s15 h3 h4 h5 j1 j2 j3 j4 hb hS2 sA sB s
  -- the holder
  obtain ⟨kh, t1, t2, t3, t3k⟩ := sC.W.t.th
  have g1 : dgetD (adOf 0).st (.str (Str.ofString "holder")) = some (.obj (adOf 0).h') := stK_h _ _ _ _
  have g4 : dgetD (adOf 0).st (.str (Str.ofString "want")) = some (.obj (adOf 0).w') := stK_w _ _ _ _
  have e1 : getK kh (.inr y) = vS (A.H y) := t2 y
  have e2 := vS_getD (A.H y)
  rw [hst] at g1 g4
  have s16 : dn_law_s16 [.f (.scr ns), .f (.int m), .f (.int kk), .f (.lst (T.map .str)), .f (.lst (some'.map .str)), .f (.obj 0), .f st, .f (.obj 9), .f (.obj 10), .f (.obj 11), .f (.str y), .f (sD due), .f (sD due), x13, x14, x15, x16] S3 = .ok (.nx [.f (.scr ns), .f (.int m), .f (.int kk), .f (.lst (T.map .str)), .f (.lst (some'.map .str)), .f (.obj 0), .f st, .f (.obj 9), .f (.obj 10), .f (.obj 11), .f (.str y), .f (sD due), .f (sD due), .f (sD (A.H y)), x14, x15, x16]) S3 := by
    generalize sD due = sd at *
    clear sC rk full nn ok full2 nn2 hs2 c4 heq hno g4 t2 t3k
    walk_at "go*"
  rw [sCons_nx' s16]
  clear s16
  obtain ⟨S4, A4, s20, sD'⟩ : ∃ S4 A4, dn_law_s20 [.f (.scr ns), .f (.int m), .f (.int kk), .f (.lst (T.map .str)), .f (.lst (some'.map .str)), .f (.obj 0), .f st, .f (.obj 9), .f (.obj 10), .f (.obj 11), .f (.str y), .f (sD due), .f (sD due), .f (sD (A.H y)), x14, x15, x16] S3 = .ok (.nx [.f (.scr ns), .f (.int m), .f (.int kk), .f (.lst (T.map .str)), .f (.lst (some'.map .str)), .f (.obj 0), .f st, .f (.obj 9), .f (.obj 10), .f (.obj 11), .f (.str y), .f (sD due), .f (sD due), .f (sD (A.H y)), x14, x15, x16]) S4 ∧ S17 S4 A4 T (n + 1) kr ko := by
    cases hh : A.H y with
    | none =>
      refine ⟨S3, A, ?_, ⟨sC.W.mono (fun _ _ => rfl) (by omega), sC.r9, sC.r10, sC.r11⟩⟩
      rw [show sD none = D.non from rfl]
      generalize sD due = sd at *
      clear sC rk full nn ok full2 nn2 hs2 c4 heq hno g1 g4 t1 t2 t3 t3k e1 e2
      walk_at "go*"
    | some p =>
      have due0 : A.due (.give p y due) = Str.ofString "" := by
        unfold LK.due
        cases due with
        | none => dsimp only; rw [if_pos hh, if_pos (hno rfl)]
        | some x => dsimp only; rw [if_pos hh, if_pos (heq x rfl)]
      obtain ⟨Sx, Sy, pr, mo, W2, f2⟩ := sC.W.step2 (by omega) hT due0 (sC.W.hn y p hh) (hs2 y hy)
      rw [hst] at mo
      replace pr : fn_Locks_give [.obj 0, .str p, .str y, sD due] S3 = .ok (.f .non) Sx := pr
      replace mo : fn_law_moved [st, .tup [.str (Str.ofString "give"), .str p, .str y, sD due]] Sx = .ok (.f .non) Sy := mo
      refine ⟨Sy, _, ?_, sC.fs W2 f2⟩
      have b0 := sC.W.i.ob
      have Lc : (locksOb (adOf 0).h (adOf 0).l (adOf 0).o (adOf 0).w).cls = Str.ofString "Locks" := rfl
      have Lf : (locksOb (adOf 0).h (adOf 0).l (adOf 0).o (adOf 0).w).fs = [(Str.ofString "holders", FV.f (.obj (adOf 0).h)), (Str.ofString "lines", FV.f (.obj (adOf 0).l)), (Str.ofString "owns", FV.f (.obj (adOf 0).o)), (Str.ofString "wants", FV.f (.obj (adOf 0).w))] := rfl
      replace b0 : S3[0]? = some (locksOb (adOf 0).h (adOf 0).l (adOf 0).o (adOf 0).w) := b0
      generalize locksOb (adOf 0).h (adOf 0).l (adOf 0).o (adOf 0).w = lob at *
      rw [show sD (some p) = D.str p from rfl]
      generalize sD due = sd at *
      clear sC rk full nn ok full2 nn2 hs2 c4 heq hno g1 g4 t1 t2 t3 t3k e1 e2 W2 f2 due0
      walk_at "go*"
  rw [sCons_nx' s20]
  clear s20 sC t1 t2 t3 t3k e1 e2 heq hno
  generalize sD (A.H y) = hd at *
  generalize sD due = sd at *
  -- the few
  have s14 : sSet 14 (eNewK kNil) [.f (.scr ns), .f (.int m), .f (.int kk), .f (.lst (T.map .str)), .f (.lst (some'.map .str)), .f (.obj 0), .f st, .f (.obj 9), .f (.obj 10), .f (.obj 11), .f (.str y), .f sd, .f sd, .f hd, x14, x15, x16] S4 = .ok (.nx [.f (.scr ns), .f (.int m), .f (.int kk), .f (.lst (T.map .str)), .f (.lst (some'.map .str)), .f (.obj 0), .f st, .f (.obj 9), .f (.obj 10), .f (.obj 11), .f (.str y), .f sd, .f sd, .f hd, .f (.obj S4.length), x15, x16]) (S4 ++ [rK []]) := by
    clear sD' rk full nn ok full2 nn2 hs2 c4
    walk_at "ev*"
  rw [sCons_nx' s14]
  clear s14
  obtain ⟨S5, hS5⟩ : ∃ S5 : Store, S4 ++ [rK []] = S5 := ⟨_, rfl⟩
  have sE := sD'.app1 (rK [])
  have f1 : (S4 ++ [rK []])[S4.length]? = some (rK []) := by rw [List.getElem?_append_right (Nat.le_refl _), Nat.sub_self]; rfl
  rw [hS5] at sE f1 ⊢
  obtain ⟨kh, t1, t2, t3, t3k⟩ := sE.W.t.th
  obtain ⟨kw, w1, w2, w3, w3k⟩ := sE.W.t.tw
  obtain ⟨hs, v1, v2, v3, v4⟩ := vals_T t2 t3k
  have kT := keys_T w3k.k
  have n9 : 9 < S4.length := (List.getElem?_eq_some_iff.mp sD'.r9).1
  have inT : ∀ z ∈ hs ++ kw.map keyT, z ∈ T ∧ (rkF kr z).isSome = true := fun z hz => by
    have : z ∈ T := by
      rcases List.mem_append.mp hz with hz | hz
      · obtain ⟨k, hk⟩ := v3 z hz; exact sE.W.hn k z hk
      · have q := keyT_get w3k.k hz
        rw [w2 z, vS_isSome] at q
        exact sE.W.wn z q
    exact ⟨this, full z this⟩
  obtain ⟨fk, y15, q1, q2, q3, -, q5⟩ := few_loop (body := dn_law_s21) (i := 15) (fun v => [.f (.scr ns), .f (.int m), .f (.int kk), .f (.lst (T.map .str)), .f (.lst (some'.map .str)), .f (.obj 0), .f st, .f (.obj 9), .f (.obj 10), .f (.obj 11), .f (.str y), .f sd, .f sd, .f hd, .f (.obj S4.length), v, x16]) (f := S4.length) (d := 9) (by omega) rk hT (fun _ _ => rfl) (fun z r S' fk' z1 z2 z3 z4 => by
    have ll : (fk'.length < lim) = True := eq_true (by unfold lim; omega)
    clear sD' sE rk full nn ok full2 nn2 hs2 c4 inT v1 v2 v3 v4 kT f1 hS5 g1 g4 t1 t2 t3 t3k w1 w2 w3 w3k n9
    walk_at "go*") (hs ++ kw.map keyT) S5 [] x15 inT f1 sE.r9 (RkD.nil T) (fun z h => by cases h)
  obtain ⟨S6, hS6⟩ : ∃ S6 : Store, S5.set S4.length (rK fk) = S6 := ⟨_, rfl⟩
  rw [hS6] at q1
  have c1 : (hs.length + kw.length ≤ lim) = True := eq_true (by unfold lim; omega)
  have s22 : dn_law_s22 [.f (.scr ns), .f (.int m), .f (.int kk), .f (.lst (T.map .str)), .f (.lst (some'.map .str)), .f (.obj 0), .f st, .f (.obj 9), .f (.obj 10), .f (.obj 11), .f (.str y), .f sd, .f sd, .f hd, .f (.obj S4.length), x15, x16] S5 = .ok (.nx [.f (.scr ns), .f (.int m), .f (.int kk), .f (.lst (T.map .str)), .f (.lst (some'.map .str)), .f (.obj 0), .f st, .f (.obj 9), .f (.obj 10), .f (.obj 11), .f (.str y), .f sd, .f sd, .f hd, .f (.obj S4.length), y15, x16]) S6 := by
    rw [List.map_append] at q1
    rw [dn_law_s22_S]
    generalize dn_law_s21 = b1 at *
    clear sD' sE rk full nn ok full2 nn2 hs2 c4 inT v2 v3 v4 f1 hS5 hS6 t2 t3 t3k w2 w3 w3k n9 q2 q3 q5
    replace t1 : S5[(adOf 0).h']? = some (rK kh) := t1
    walk_at "ev*"
  rw [sCons_nx' s22]
  clear s22 q1
  have sF : S17 S6 A4 T (n + 1) kr ko := by
    have ne : ∀ j, j < S4.length → S6[j]? = S5[j]? := fun j hj => by rw [← hS6]; exact set_get_ne (by omega)
    have n10 : 10 < S4.length := (List.getElem?_eq_some_iff.mp sD'.r10).1
    have n11 : 11 < S4.length := (List.getElem?_eq_some_iff.mp sD'.r11).1
    exact ⟨sE.W.mono (fun j hj => ne j (sD'.W.lt hj)) (Nat.le_refl _), by rw [ne 9 n9]; exact sE.r9, by rw [ne 10 n10]; exact sE.r10, by rw [ne 11 n11]; exact sE.r11⟩
  have f6 : S6[S4.length]? = some (rK fk) := by rw [← hS6]; exact set_get f1
  have same : ∀ u z, A4.arrow u = some z → rkF fk u = rkF kr u := fun u z e => by
    refine q3 u (q5 u (List.mem_append_right _ ?_))
    obtain ⟨k, hk⟩ := Option.isSome_iff_exists.mp (W_of e)
    exact keyT_mem (d := .str k) (by rw [w2 u]; show vS (A4.W u) = _; rw [hk]; rfl)
  have rdf : Ranked A4 (rkF fk) := fun u z e => by
    refine ⟨by rw [same u z e]; exact full u (sF.W.wn u (W_of e)), q5 z (List.mem_append_left _ ?_)⟩
    unfold LK.arrow at e
    cases q : A4.W u with
    | none => rw [q] at e; cases e
    | some k => rw [q] at e; exact v4 k z e
  have kl := rk.len
  have h7 := heir_ok sF.W.i (d := S4.length) (L := Lt A4 (rkF kr)) y (fun z hz => by
    obtain ⟨k, p, a1, a2, a3⟩ := arrow_of sF.W.g (y := z) (by rw [sF.W.g.w y z hz]; rfl)
    have sz := same z p a3
    have fz := full z (sF.W.lineT hz)
    have lo := lent_ok sF.W (by omega) f6 hT q2 rdf z (by rw [sz]; exact fz)
    have eqL : Lt A4 (rkF fk) z = Lt A4 (rkF kr) z := by
      show (lentS A4 (rkF fk) 70 z).getD 0 = _
      rw [lent_few sF.W.g sF.W.ho same 70 z sz]; rfl
    rw [eqL] at lo
    exact ⟨lo, Lt_nn sF.W.g sF.W.ho sF.W.ac (by omega) (sF.W.ranked full) nn fz⟩)
  obtain ⟨-, b8, h8⟩ := heirs_ok sF.W (by omega) hT sF.r9 rk full nn y
  rw [hst] at h8
  replace h7 : fn_heir [.obj 0, .obj S4.length, .str y] S6 = .ok (.f (sD (heirF (Lt A4 (rkF kr)) ((A4.L y).getD [])))) S6 := h7
  replace h8 : fn_law_heir [st, .obj 9, .str y] S6 = .ok (.f (sD (heirF (Lt A4 (rkF kr)) ((A4.L y).getD [])))) (S6 ++ [rK b8]) := h8
  have sG := sF.app1 (rK b8)
  have sy := stays_ok sG.W T (by omega)
  rw [hst] at sy
  replace sy : fn_law_stays [.obj 0, st, .lst (T.map .str)] (S6 ++ [rK b8]) = .ok (.f (.bl true)) (S6 ++ [rK b8]) := sy
  refine ⟨.f (.str y), .f sd, .f sd, .f hd, .f (.obj S4.length), y15, S6 ++ [rK b8], A4, ?_, sG⟩
  have q := neD_sD (heirF (Lt A4 (rkF kr)) ((A4.L y).getD []))
  generalize sD (heirF (Lt A4 (rkF kr)) ((A4.L y).getD [])) = sd2 at *
  clear sD' sE sF sG rk full nn ok full2 nn2 hs2 c4 inT v1 v2 v3 v4 f1 hS5 hS6 t1 t2 t3 t3k w1 w2 w3 w3k n9 q2 q3 q5 same rdf f6 kT
  walk_at "go*"

/-! ### k17: the law -/
theorem rank_by_nn {c k : Int} (hb : Builtin.Int.intBits c ≤ 50000000) (hk : k.natAbs < 1000) (S : Store) : ∃ r, fn_law_rank_by [.int c, .int k] S = .ok (.f (.int r)) S ∧ 0 ≤ r := by
  have m7 := mulD_l (i := 7) (j := k) (by decide)
  have m11 := mulD_l (i := 11) (j := k) (by decide)
  have x7 := mulX_ok (mul_fits hb (c := 7 * k) (d := 3) (by omega) (by decide) (by decide) (by decide))
  have x11 := mulX_ok (mul_fits hb (c := 11 * k) (d := 1) (by omega) (by decide) (by decide) (by decide))
  have y7 := mixed_ok ((c + 7 * k) * (c + 7 * k + 3)) 6 (by decide) S
  have y11 := mixed_ok ((c + 11 * k) * (c + 11 * k + 1)) 100 (by decide) S
  generalize hv : ((c + 7 * k) * (c + 7 * k + 3) * 48271 + 12345) % 2147483647 % 6 = v at y7
  generalize hu : ((c + 11 * k) * (c + 11 * k + 1) * 48271 + 12345) % 2147483647 % 100 = u at y11
  have hv0 : 0 ≤ v ∧ v < 6 := by omega
  have hu0 : 0 ≤ u := by omega
  have ix : ∃ r, ixD (.lst [.int 0, .int 99, .int 50, .int 50, .int 99, .int 0]) (.int v) = some (.int r) ∧ 0 ≤ r := by
    obtain ⟨j, rfl⟩ : ∃ j : Nat, v = j := ⟨v.toNat, by omega⟩
    have hj : j < 6 := by omega
    match j, hj with
    | 0, _ => exact ⟨_, rfl, by decide⟩
    | 1, _ => exact ⟨_, rfl, by decide⟩
    | 2, _ => exact ⟨_, rfl, by decide⟩
    | 3, _ => exact ⟨_, rfl, by decide⟩
    | 4, _ => exact ⟨_, rfl, by decide⟩
    | 5, _ => exact ⟨_, rfl, by decide⟩
  obtain ⟨r, ix, r0⟩ := ix
  clear hv hu hv0 hb hk
  unfold fn_law_rank_by dn_law_rank_by
  generalize hmu : mulD = mu at *
  generalize hmx : mulXD = mx at *
  clear hmu hmx
  by_cases h3 : c % 3 = 0
  · refine ⟨r, ?_, r0⟩
    clear r0 hu0
    walk_at "ev*"
  · refine ⟨u, ?_, hu0⟩
    clear r0 hu0
    walk_at "ev*"
theorem ranks_loop2 {body : En → M Fl} {names : List Str} (hT : names.length ≤ 60) (E : EV → En) (j : Nat) (hb : ∀ i x, bName 2 (.int i) (E x) = some (E (.f (.int i)))) (step : ∀ (k : Nat) (hk : k < names.length) (S : Store) (kvs : List (Key × D)), S[j]? = some (rK kvs) → kvs.length ≤ 60 → ∃ r : Int, 0 ≤ r ∧ body (E (.f (.int (0 + (k : Nat))))) S = .ok (.nx (E (.f (.int (0 + (k : Nat)))))) (S.set j (rK (putD kvs (.inr names[k]) (.int r))))) :
    ∀ (xs : List Nat) (hx : ∀ x ∈ xs, x < names.length) (S : Store) (kvs : List (Key × D)) (x2 : EV), S[j]? = some (rK kvs) → RkD kvs names → Nn kvs → ∃ kvs' x2', forD body (bName 2) (xs.map fun i : Nat => D.int (0 + (i : Nat))) (E x2) S = .ok (.nx (E x2')) (S.set j (rK kvs')) ∧ RkD kvs' names ∧ Nn kvs' ∧ (∀ y, (rkF kvs y).isSome = true → (rkF kvs' y).isSome = true) ∧ ∀ k (hk : k ∈ xs), (rkF kvs' (names[k]'(hx k hk))).isSome = true
  | [], _, S, kvs, x2, h1, h2, h3 => ⟨kvs, x2, by rw [set_same h1]; rfl, h2, h3, fun _ h => h, fun k hk => by cases hk⟩
  | k :: xs, hx, S, kvs, x2, h1, h2, h3 => by
    have hk := hx k List.mem_cons_self
    have kl := h2.len
    obtain ⟨r, r0, st⟩ := step k hk S kvs h1 (by omega)
    obtain ⟨kvs', x2', q1, q2, q2n, q3, q4⟩ := ranks_loop2 hT E j hb step xs (fun x h => hx x (List.mem_cons_of_mem _ h)) (S.set j (rK (putD kvs (.inr names[k]) (.int r)))) (putD kvs (.inr names[k]) (.int r)) (.f (.int (0 + (k : Nat)))) (set_get h1) (h2.put (List.getElem_mem hk) r) (fun y v hv => by
      rw [rkF_put] at hv
      split at hv
      · cases hv; exact r0
      · exact h3 y v hv)
    refine ⟨kvs', x2', ?_, q2, q2n, fun y hy => q3 y ?_, fun i hi => ?_⟩
    · rw [List.map_cons, forD_nx (hb _ _) st, q1, set_set]
    · rw [rkF_put]
      split
      · rfl
      · exact hy
    · by_cases c : i = k
      · subst c
        refine q3 _ ?_
        rw [rkF_put, if_pos rfl]; rfl
      · rcases List.mem_cons.mp hi with h | h
        · exact absurd h c
        · exact q4 i h
/-- one dict's items put into another -/
theorem put_loop {body : En → M Fl} {i : Nat} (E : EV → En) {f d : Nat} (hf : f ≠ d) {kvs : List (Key × D)} {T : List Str} (rk : RkD kvs T) (hT : T.length ≤ 60) (hb : ∀ (y : Str) x, bName i (.str y) (E x) = some (E (.f (.str y)))) (step : ∀ (y : Str) (r : Int) (S : Store) (fk : List (Key × D)), getK kvs (.inr y) = some (.int r) → S[f]? = some (rK fk) → S[d]? = some (rK kvs) → fk.length ≤ 60 → body (E (.f (.str y))) S = .ok (.nx (E (.f (.str y)))) (S.set f (rK (putD fk (.inr y) (.int r))))) :
    ∀ (xs : List Str) (S : Store) (fk : List (Key × D)) (x5 : EV), (∀ y ∈ xs, y ∈ T ∧ (rkF kvs y).isSome = true) → S[f]? = some (rK fk) → S[d]? = some (rK kvs) → RkD fk T → ∃ fk' x5', forD body (bName i) (xs.map .str) (E x5) S = .ok (.nx (E x5')) (S.set f (rK fk')) ∧ RkD fk' T ∧ (∀ y, rkF fk y = rkF kvs y → rkF fk' y = rkF kvs y) ∧ ∀ y ∈ xs, rkF fk' y = rkF kvs y
  | [], S, fk, x5, _, h1, h2, h3 => ⟨fk, x5, by rw [set_same h1]; rfl, h3, fun _ h => h, fun y h => by cases h⟩
  | y :: xs, S, fk, x5, hx, h1, h2, h3 => by
    obtain ⟨hy, hr⟩ := hx y List.mem_cons_self
    obtain ⟨r, hr⟩ := Option.isSome_iff_exists.mp hr
    have kl := h3.len
    have st := step y r S fk (by rw [rk.get, hr]; rfl) h1 h2 (by omega)
    obtain ⟨fk', x5', q1, q2, q3, q5⟩ := put_loop E hf rk hT hb step xs (S.set f (rK (putD fk (.inr y) (.int r)))) (putD fk (.inr y) (.int r)) (.f (.str y)) (fun z hz => hx z (List.mem_cons_of_mem _ hz)) (set_get h1) (by rw [set_get_ne hf]; exact h2) (h3.put hy r)
    refine ⟨fk', x5', ?_, q2, fun z hz => q3 z ?_, fun z hz => ?_⟩
    · rw [List.map_cons, forD_nx (hb _ _) st, q1, set_set]
    · rw [rkF_put]
      by_cases c : z = y
      · rw [if_pos c, c, hr]
      · rw [if_neg c]; exact hz
    · rcases List.mem_cons.mp hz with rfl | hz
      · refine q3 z ?_
        rw [rkF_put, if_pos rfl, hr]
      · exact q5 z hz

theorem body_ok (ns : List Int) (hl : ns.length ≤ 63) (hbits : ∀ z ∈ ns, Builtin.Int.intBits z ≤ 1048576) : ∃ S', dn_law [EV.f (.scr ns), .u, .u, .u, .u, .u, .u, .u, .u, .u, .u, .u, .u, .u, .u, .u, .u] [] = .ok (.rt (.bl true)) S' := by
  have c0 := cell_ok ns 0 hl []
  have c1 := cell_ok ns 1 hl []
  have c2 := cell_ok ns 2 hl []
  have c3 := fun S => cell_ok ns 3 hl S
  have c4 := fun S => cell_ok ns 4 hl S
  have b3 := cell_bits hbits 3
  simp only [Int.ofNat_zero, Int.ofNat_one, Int.cast_ofNat_Int] at c0 c1 c2 c3 c4
  generalize cellAt ns 0 = cl0 at *
  generalize cellAt ns 1 = cl1 at *
  generalize cellAt ns 2 = cl2 at *
  generalize cellAt ns 3 = cl3 at *
  generalize cellAt ns 4 = cl4 at *
  obtain ⟨m, hm, hm1, hm2⟩ := many_by_ok cl0 []
  rw [dn_law_S]
  have s1 : dn_law_s1 [EV.f (.scr ns), .u, .u, .u, .u, .u, .u, .u, .u, .u, .u, .u, .u, .u, .u, .u, .u] [] = .ok (.nx [EV.f (.scr ns), EV.f (.int m), .u, .u, .u, .u, .u, .u, .u, .u, .u, .u, .u, .u, .u, .u, .u]) [] := by
    clear c1 c2 c3 c4
    walk_at "go*"
  rw [sCons_nx' s1]
  have r1 : (-1000000 ≤ (m : Int) ∧ (m : Int) ≤ 1000000) = True := eq_true ⟨by omega, by omega⟩
  have tn : ((m : Int)).toNat = m := Int.toNat_natCast m
  obtain ⟨names, s2, hn, hs⟩ : ∃ names : List Str, dn_law_s2 [EV.f (.scr ns), EV.f (.int m), .u, .u, .u, .u, .u, .u, .u, .u, .u, .u, .u, .u, .u, .u, .u] [] = .ok (.nx [EV.f (.scr ns), EV.f (.int m), .u, EV.f (.lst (names.map .str)), .u, .u, .u, .u, .u, .u, .u, .u, .u, .u, .u, .u, .u]) [] ∧ names.length = m ∧ ∀ t ∈ names, PyData.strOk t = true := by
    obtain ⟨names, q1, q2, q3⟩ := names_ok (e := eFn (fn_law_cell_at) (aCons (eVar 0) (aCons (eC (.int 1)) (aNil)))) (env := [EV.f (.scr ns), EV.f (.int m), .u, .u, .u, .u, .u, .u, .u, .u, .u, .u, .u, .u, .u, .u, .u]) (S := []) m (by omega) cl1 (by simp) (fun d => by
      clear c0 c2 c3 c4 s1 hm
      walk_at "ev*")
    refine ⟨names, ?_, q2, q3⟩
    clear q3 c0 c1 c2 c3 c4 q2 s1 hm
    walk_at "go*"
  rw [sCons_nx' s2]
  obtain ⟨some', s3, hn2, hs2⟩ : ∃ some' : List Str, dn_law_s3 [EV.f (.scr ns), EV.f (.int m), .u, EV.f (.lst (names.map .str)), .u, .u, .u, .u, .u, .u, .u, .u, .u, .u, .u, .u, .u] [] = .ok (.nx [EV.f (.scr ns), EV.f (.int m), .u, EV.f (.lst (names.map .str)), EV.f (.lst (some'.map .str)), .u, .u, .u, .u, .u, .u, .u, .u, .u, .u, .u, .u]) [] ∧ some'.length = m ∧ ∀ t ∈ some', PyData.strOk t = true := by
    obtain ⟨some', q1, q2, q3⟩ := names_ok (e := eFn (fn_law_cell_at) (aCons (eVar 0) (aCons (eC (.int 2)) (aNil)))) (env := [EV.f (.scr ns), EV.f (.int m), .u, EV.f (.lst (names.map .str)), .u, .u, .u, .u, .u, .u, .u, .u, .u, .u, .u, .u, .u]) (S := []) m (by omega) cl2 (by simp) (fun d => by
      clear c0 c1 c3 c4 s1 s2 hm hs
      walk_at "ev*")
    refine ⟨some', ?_, q2, q3⟩
    clear q3 c0 c1 c2 c3 c4 q2 s1 s2 hm hs
    walk_at "go*"
  rw [sCons_nx' s3]
  clear s1 s2 s3 hm c0 c1
  obtain ⟨S1, A1, b1, W1, l1, -⟩ := built_ok hl (names := names) (some' := some') (by omega) (by omega) hs (by omega) (by omega) hs2 []
  replace b1 : fn_law_built [.scr ns, .lst (names.map .str), .lst (some'.map .str)] [] = .ok (.f (.tup [.obj 0, (adOf 0).st])) S1 := b1
  replace W1 : Ws S1 (adOf 0) A1 names 160 := W1
  replace l1 : S1.length = 9 := l1
  generalize hst : (adOf 0).st = st at *
  have s4 : dn_law_s4 [EV.f (.scr ns), EV.f (.int m), .u, EV.f (.lst (names.map .str)), EV.f (.lst (some'.map .str)), .u, .u, .u, .u, .u, .u, .u, .u, .u, .u, .u, .u] [] = .ok (.nx [EV.f (.scr ns), EV.f (.int m), .u, EV.f (.lst (names.map .str)), EV.f (.lst (some'.map .str)), .f (.obj 0), .f st, .u, .u, .u, .u, .u, .u, .u, .u, .u, .u]) S1 := by
    clear c2 c3 c4 W1 hs hs2
    walk_at "go*"
  rw [sCons_nx' s4]
  clear s4 b1
  have s5 : sSet 7 (eNewK kNil) [EV.f (.scr ns), EV.f (.int m), .u, EV.f (.lst (names.map .str)), EV.f (.lst (some'.map .str)), .f (.obj 0), .f st, .u, .u, .u, .u, .u, .u, .u, .u, .u, .u] S1 = .ok (.nx [EV.f (.scr ns), EV.f (.int m), .u, EV.f (.lst (names.map .str)), EV.f (.lst (some'.map .str)), .f (.obj 0), .f st, .f (.obj 9), .u, .u, .u, .u, .u, .u, .u, .u, .u]) (S1 ++ [rK []]) := by
    clear c2 c3 c4 W1 hs hs2
    walk_at "ev*"
  rw [sCons_nx' s5]
  clear s5
  have g9 : (S1 ++ [rK []])[9]? = some (rK []) := by rw [List.getElem?_append_right (by omega), l1]; rfl
  have W2 := W1.app (S1 ++ [rK []]) (fun j hj => List.getElem?_append_left hj)
  have ix : ∀ (k : Nat) (hk : k < names.length), ixD (.lst (names.map D.str)) (.int (0 + (k : Nat))) = some (.str names[k]) := fun k hk => by rw [Int.zero_add]; exact ix_map (List.getElem?_eq_getElem hk)
  obtain ⟨kr, x2, s6, rk, nn, -, full⟩ := ranks_loop2 (body := dn_law_s5) (names := names) (by omega) (fun x => [EV.f (.scr ns), EV.f (.int m), x, EV.f (.lst (names.map .str)), EV.f (.lst (some'.map .str)), .f (.obj 0), .f st, .f (.obj 9), .u, .u, .u, .u, .u, .u, .u, .u, .u]) 9 (fun _ _ => rfl) (fun k hk S kvs h9 hkl => by
    obtain ⟨r, hr, r0⟩ := rank_by_nn (c := cl3) (k := 0 + (k : Nat)) (by omega) (by omega) S
    refine ⟨r, r0, ?_⟩
    have ik := ix k hk
    have c3 := c3 S
    have ll : (kvs.length < lim) = True := eq_true (by unfold lim; omega)
    generalize names[k] = y at *
    generalize (0 : Int) + (k : Nat) = kk at *
    clear W1 W2 ix c2 c4 hs hs2 g9 r0
    walk_at "go*") (List.range names.length) (fun x hx => by simpa using hx) (S1 ++ [rK []]) [] .u g9 (RkD.nil _) (fun y r h => by cases h)
  have full := full_of full
  have s6 : dn_law_s6 [EV.f (.scr ns), EV.f (.int m), .u, EV.f (.lst (names.map .str)), EV.f (.lst (some'.map .str)), .f (.obj 0), .f st, .f (.obj 9), .u, .u, .u, .u, .u, .u, .u, .u, .u] (S1 ++ [rK []]) = .ok (.nx [EV.f (.scr ns), EV.f (.int m), x2, EV.f (.lst (names.map .str)), EV.f (.lst (some'.map .str)), .f (.obj 0), .f st, .f (.obj 9), .u, .u, .u, .u, .u, .u, .u, .u, .u]) ((S1 ++ [rK []]).set 9 (rK kr)) := by
    rw [hn, ← rng_map] at s6
    rw [dn_law_s6_S]
    generalize dn_law_s5 = b5 at *
    clear W1 W2 ix c2 c3 c4 hs hs2 g9 rk full nn
    walk_at "ev*"
  rw [sCons_nx' s6]
  clear s6
  obtain ⟨S3, hS3⟩ : ∃ S3 : Store, (S1 ++ [rK []]).set 9 (rK kr) = S3 := ⟨_, rfl⟩
  have g3 : S3[9]? = some (rK kr) := by rw [← hS3]; exact set_get g9
  have W3 : Ws S3 (adOf 0) A1 names 160 := by rw [← hS3]; exact W2.mono (fun j hj => set_get_ne (fun e => by have := has_lt hj; omega)) (Nat.le_refl _)
  have l3 : S3.length = 10 := by rw [← hS3]; simp [l1]
  rw [hS3]
  clear hS3 g9 W1 W2 l1
  have s8 : sSet 8 (eNewK (kCpyK (eVar 7))) [EV.f (.scr ns), EV.f (.int m), x2, EV.f (.lst (names.map .str)), EV.f (.lst (some'.map .str)), .f (.obj 0), .f st, .f (.obj 9), .u, .u, .u, .u, .u, .u, .u, .u, .u] S3 = .ok (.nx [EV.f (.scr ns), EV.f (.int m), x2, EV.f (.lst (names.map .str)), EV.f (.lst (some'.map .str)), .f (.obj 0), .f st, .f (.obj 9), .f (.obj 10), .u, .u, .u, .u, .u, .u, .u, .u]) (S3 ++ [rK kr]) := by
    clear W3 ix c2 c3 c4 hs hs2 rk full nn
    walk_at "ev*"
  rw [sCons_nx' s8]
  have s9 : sSet 9 (eNewK kNil) [EV.f (.scr ns), EV.f (.int m), x2, EV.f (.lst (names.map .str)), EV.f (.lst (some'.map .str)), .f (.obj 0), .f st, .f (.obj 9), .f (.obj 10), .u, .u, .u, .u, .u, .u, .u, .u] (S3 ++ [rK kr]) = .ok (.nx [EV.f (.scr ns), EV.f (.int m), x2, EV.f (.lst (names.map .str)), EV.f (.lst (some'.map .str)), .f (.obj 0), .f st, .f (.obj 9), .f (.obj 10), .f (.obj 11), .u, .u, .u, .u, .u, .u, .u]) (S3 ++ [rK kr] ++ [rK []]) := by
    have l4 : (S3 ++ [rK kr]).length = 11 := by simp [l3]
    clear W3 ix c2 c3 c4 hs hs2 rk full nn s8
    walk_at "ev*"
  rw [sCons_nx' s9]
  clear s8 s9
  obtain ⟨S4, hS4⟩ : ∃ S4 : Store, S3 ++ [rK kr] ++ [rK []] = S4 := ⟨_, rfl⟩
  have W4 := W3.app S4 (fun j hj => by rw [← hS4, List.append_assoc, List.getElem?_append_left hj])
  have a9 : S4[9]? = some (rK kr) := by rw [← hS4, List.append_assoc, List.getElem?_append_left (by omega)]; exact g3
  have a10 : S4[10]? = some (rK kr) := by rw [← hS4, List.append_assoc, List.getElem?_append_right (by omega), l3]; rfl
  have a11 : S4[11]? = some (rK []) := by rw [← hS4, List.getElem?_append_right (by simp [l3])]; simp [l3]
  rw [hS4]
  clear hS4 W3 g3 l3
  obtain ⟨ko, x2b, s8, ok, nn2, -, full2⟩ := ranks_loop2 (body := dn_law_s7) (names := names) (by omega) (fun x => [EV.f (.scr ns), EV.f (.int m), x, EV.f (.lst (names.map .str)), EV.f (.lst (some'.map .str)), .f (.obj 0), .f st, .f (.obj 9), .f (.obj 10), .f (.obj 11), .u, .u, .u, .u, .u, .u, .u]) 11 (fun _ _ => rfl) (fun k hk S kvs h9 hkl => by
    obtain ⟨r, hr, r0⟩ := rank_by_nn (c := cl3 + 1) (k := 0 + (k : Nat)) (Nat.le_trans (Dn.bits_add b3 (bits_small (c := 1) (by decide) (by decide))) (by decide)) (by omega) S
    refine ⟨r, r0, ?_⟩
    have ik := ix k hk
    have c3 := c3 S
    have ll : (kvs.length < lim) = True := eq_true (by unfold lim; omega)
    generalize names[k] = y at *
    generalize (0 : Int) + (k : Nat) = kk at *
    clear W4 ix c2 c4 hs hs2 r0 rk nn full a9 a10 a11
    walk_at "go*") (List.range names.length) (fun x hx => by simpa using hx) S4 [] x2 a11 (RkD.nil _) (fun y r h => by cases h)
  have full2 := full_of full2
  have s8 : dn_law_s8 [EV.f (.scr ns), EV.f (.int m), x2, EV.f (.lst (names.map .str)), EV.f (.lst (some'.map .str)), .f (.obj 0), .f st, .f (.obj 9), .f (.obj 10), .f (.obj 11), .u, .u, .u, .u, .u, .u, .u] S4 = .ok (.nx [EV.f (.scr ns), EV.f (.int m), x2b, EV.f (.lst (names.map .str)), EV.f (.lst (some'.map .str)), .f (.obj 0), .f st, .f (.obj 9), .f (.obj 10), .f (.obj 11), .u, .u, .u, .u, .u, .u, .u]) (S4.set 11 (rK ko)) := by
    rw [hn, ← rng_map] at s8
    rw [dn_law_s8_S]
    generalize dn_law_s7 = b5 at *
    clear W4 ix c2 c3 c4 hs hs2 rk full nn ok nn2 full2 a9 a10 a11
    walk_at "ev*"
  rw [sCons_nx' s8]
  clear s8
  have st5 : S17 (S4.set 11 (rK ko)) A1 names 160 kr ko := ⟨W4.mono (fun j hj => set_get_ne (fun e => by have := has_lt hj; omega)) (Nat.le_refl _), by rw [set_get_ne (by decide)]; exact a9, by rw [set_get_ne (by decide)]; exact a10, set_get a11⟩
  generalize S4.set 11 (rK ko) = S5 at *
  clear W4 a9 a10 a11
  have lp : ∀ (xs : List Nat) (n : Nat) (S : Store) (A : LK) (x2 x10 x11 x12 x13 x14 x15 : EV), S17 S A names n kr ko → n + xs.length ≤ 250 → ∃ y2 y10 y11 y12 y13 y14 y15 S' A', forD dn_law_b25 (bName 2) (xs.map fun i : Nat => D.int (0 + (i : Nat))) [EV.f (.scr ns), EV.f (.int m), x2, EV.f (.lst (names.map .str)), EV.f (.lst (some'.map .str)), .f (.obj 0), .f st, .f (.obj 9), .f (.obj 10), .f (.obj 11), x10, x11, x12, x13, x14, x15, .u] S = .ok (.nx [EV.f (.scr ns), EV.f (.int m), y2, EV.f (.lst (names.map .str)), EV.f (.lst (some'.map .str)), .f (.obj 0), .f st, .f (.obj 9), .f (.obj 10), .f (.obj 11), y10, y11, y12, y13, y14, y15, .u]) S' ∧ S17 S' A' names (n + xs.length) kr ko := by
    intro xs
    induction xs with
    | nil => intro n S A x2 x10 x11 x12 x13 x14 x15 s _; exact ⟨x2, x10, x11, x12, x13, x14, x15, S, A, rfl, s⟩
    | cons k xs ih =>
      intro n S A x2 x10 x11 x12 x13 x14 x15 s hl2
      simp only [List.length_cons] at hl2 ⊢
      obtain ⟨y10, y11, y12, y13, y14, y15, S1, A1, q1, s1⟩ := step17 s c4 (by omega) (by omega) hn2 (by omega) hs2 rk full nn ok full2 nn2 (0 + (k : Nat)) x10 x11 x12 x13 x14 x15 .u
      rw [hst] at q1
      obtain ⟨v2, v10, v11, v12, v13, v14, v15, S2, A2, q2, s2⟩ := ih (n + 1) S1 A1 (.f (.int (0 + (k : Nat)))) y10 y11 y12 y13 y14 y15 s1 (by omega)
      refine ⟨v2, v10, v11, v12, v13, v14, v15, S2, A2, ?_, by rw [show n + (xs.length + 1) = n + 1 + xs.length by omega]; exact s2⟩
      rw [List.map_cons, forD_nx (show bName 2 (.int (0 + (k : Nat))) [EV.f (.scr ns), EV.f (.int m), x2, EV.f (.lst (names.map .str)), EV.f (.lst (some'.map .str)), .f (.obj 0), .f st, .f (.obj 9), .f (.obj 10), .f (.obj 11), x10, x11, x12, x13, x14, x15, .u] = some [EV.f (.scr ns), EV.f (.int m), (.f (.int (0 + (k : Nat)))), EV.f (.lst (names.map .str)), EV.f (.lst (some'.map .str)), .f (.obj 0), .f st, .f (.obj 9), .f (.obj 10), .f (.obj 11), x10, x11, x12, x13, x14, x15, .u] from rfl) q1]
      exact q2
  obtain ⟨p, hp, hp2⟩ : ∃ p : Nat, minO [.int 12, .int (2 * (m : Int))] = some (.int (p : Int)) ∧ p ≤ 12 := by
    by_cases c : 2 * (m : Int) < 12
    · refine ⟨2 * m, ?_, by omega⟩
      show some (D.int (if 2 * (m : Int) < 12 then 2 * (m : Int) else 12)) = _
      rw [if_pos c]; rfl
    · refine ⟨12, ?_, by omega⟩
      show some (D.int (if 2 * (m : Int) < 12 then 2 * (m : Int) else 12)) = _
      rw [if_neg c]; rfl
  obtain ⟨z2, z10, z11, z12, z13, z14, z15, S6, A6, q26, st6⟩ := lp (List.range p) 160 S5 A1 x2b .u .u .u .u .u .u st5 (by simp; omega)
  rw [← rng_map] at q26
  have m2 := mulD_l (i := 2) (j := (m : Int)) (by decide)
  have rp : (-1000000 ≤ (p : Int) ∧ (p : Int) ≤ 1000000) = True := eq_true ⟨by omega, by omega⟩
  have tp : ((p : Int)).toNat = p := Int.toNat_natCast p
  have s26 : dn_law_s26 [EV.f (.scr ns), EV.f (.int m), x2b, EV.f (.lst (names.map .str)), EV.f (.lst (some'.map .str)), .f (.obj 0), .f st, .f (.obj 9), .f (.obj 10), .f (.obj 11), .u, .u, .u, .u, .u, .u, .u] S5 = .ok (.nx [EV.f (.scr ns), EV.f (.int m), z2, EV.f (.lst (names.map .str)), EV.f (.lst (some'.map .str)), .f (.obj 0), .f st, .f (.obj 9), .f (.obj 10), .f (.obj 11), z10, z11, z12, z13, z14, z15, .u]) S6 := by
    rw [dn_law_s26_S]
    generalize dn_law_b25 = b25 at *
    generalize hmo : minO = mo at *
    generalize hmu : mulD = mu at *
    generalize 2 * (m : Int) = mm at *
    clear hmo hmu lp st5 st6 ix c2 c3 c4 hs hs2 rk full nn ok nn2 full2
    walk_at "ev*"
  rw [sCons_nx' s26]
  clear s26 q26 lp st5
  have kk := rk.same
  have e9 := st6.r9
  have e10 := st6.r10
  have s28 : dn_law_s28 [EV.f (.scr ns), EV.f (.int m), z2, EV.f (.lst (names.map .str)), EV.f (.lst (some'.map .str)), .f (.obj 0), .f st, .f (.obj 9), .f (.obj 10), .f (.obj 11), z10, z11, z12, z13, z14, z15, .u] S6 = .ok (.nx [EV.f (.scr ns), EV.f (.int m), z2, EV.f (.lst (names.map .str)), EV.f (.lst (some'.map .str)), .f (.obj 0), .f st, .f (.obj 9), .f (.obj 10), .f (.obj 11), z10, z11, z12, z13, z14, z15, .u]) S6 := by
    clear st6 ix c2 c3 c4 hs hs2 rk full nn ok nn2 full2
    walk_at "go*"
  rw [sCons_nx' s28]
  clear s28 kk e9
  obtain ⟨kc, y16, s30, ck, -, c5⟩ := put_loop (body := dn_law_s29) (i := 16) (fun v => [EV.f (.scr ns), EV.f (.int m), z2, EV.f (.lst (names.map .str)), EV.f (.lst (some'.map .str)), .f (.obj 0), .f st, .f (.obj 9), .f (.obj 10), .f (.obj 11), z10, z11, z12, z13, z14, z15, v]) (f := 10) (d := 11) (by decide) ok (by omega) (fun _ _ => rfl) (fun y r S fk h1 h2 h3 h4 => by
    have ll : (fk.length < lim) = True := eq_true (by unfold lim; omega)
    clear st6 ix c2 c3 c4 hs hs2 rk full nn ok nn2 full2 e10
    walk_at "go*") names S6 kr .u (fun y hy => ⟨hy, full2 y hy⟩) e10 st6.r11 rk
  have s30 : dn_law_s30 [EV.f (.scr ns), EV.f (.int m), z2, EV.f (.lst (names.map .str)), EV.f (.lst (some'.map .str)), .f (.obj 0), .f st, .f (.obj 9), .f (.obj 10), .f (.obj 11), z10, z11, z12, z13, z14, z15, .u] S6 = .ok (.nx [EV.f (.scr ns), EV.f (.int m), z2, EV.f (.lst (names.map .str)), EV.f (.lst (some'.map .str)), .f (.obj 0), .f st, .f (.obj 9), .f (.obj 10), .f (.obj 11), z10, z11, z12, z13, z14, z15, y16]) (S6.set 10 (rK kc)) := by
    rw [dn_law_s30_S]
    generalize dn_law_s29 = b5 at *
    clear st6 ix c2 c3 c4 hs hs2 rk full nn ok nn2 full2 e10 ck c5
    walk_at "ev*"
  rw [sCons_nx' s30]
  clear s30
  have W7 : Ws (S6.set 10 (rK kc)) (adOf 0) A6 names (160 + (List.range p).length) := st6.W.mono (fun j hj => set_get_ne (fun e => by have := has_lt hj; omega)) (Nat.le_refl _)
  have h10 : (S6.set 10 (rK kc))[10]? = some (rK kc) := set_get e10
  have h11 : (S6.set 10 (rK kc))[11]? = some (rK ko) := by rw [set_get_ne (by decide)]; exact st6.r11
  generalize S6.set 10 (rK kc) = S7 at *
  clear st6 e10
  have hnl : 160 + (List.range p).length ≤ 300 := by simp; omega
  have hm0 : 0 < some'.length := by omega
  have i0 : ixD (.lst (some'.map D.str)) (.int 0) = some (.str some'[0]) := ix_map (i := 0) (List.getElem?_eq_getElem hm0)
  generalize some'[0] = y at *
  obtain ⟨-, b8, h8⟩ := heirs_ok W7 hnl (by omega) h11 ok full2 nn2 y
  have kl := ck.len
  have kl2 := ok.len
  have rdc : Ranked A6 (rkF kc) := W7.ranked (fun x hx => by rw [c5 x hx]; exact full2 x hx)
  have h7 := heir_ok W7.i (d := 10) (L := Lt A6 (rkF ko)) y (fun z hz => by
    have zT := W7.lineT hz
    have sz := c5 z zT
    have fz := full2 z zT
    have lo := lent_ok W7 hnl h10 (by omega) ck rdc z (by rw [sz]; exact fz)
    have eqL : Lt A6 (rkF kc) z = Lt A6 (rkF ko) z := by
      show (lentS A6 (rkF kc) 70 z).getD 0 = _
      rw [lent_few W7.g W7.ho (fun u v e => c5 u (W7.wn u (W_of e))) 70 z sz]; rfl
    rw [eqL] at lo
    exact ⟨lo, Lt_nn W7.g W7.ho W7.ac (by omega) (W7.ranked full2) nn2 fz⟩)
  rw [hst] at h8
  replace h7 : fn_heir [.obj 0, .obj 10, .str y] S7 = .ok (.f (sD (heirF (Lt A6 (rkF ko)) ((A6.L y).getD [])))) S7 := h7
  replace h8 : fn_law_heir [st, .obj 11, .str y] S7 = .ok (.f (sD (heirF (Lt A6 (rkF ko)) ((A6.L y).getD [])))) (S7 ++ [rK b8]) := h8
  refine ⟨S7 ++ [rK b8], ?_⟩
  have q : eqD (sD (heirF (Lt A6 (rkF ko)) ((A6.L y).getD []))) (sD (heirF (Lt A6 (rkF ko)) ((A6.L y).getD []))) = some true := by
    cases heirF (Lt A6 (rkF ko)) ((A6.L y).getD []) with
    | none => rfl
    | some x => show eqD (.str x) (.str x) = _; rw [eqD_str, decide_eq_true rfl]
  generalize sD (heirF (Lt A6 (rkF ko)) ((A6.L y).getD [])) = sd2 at *
  clear W7 rdc ix c2 c3 c4 hs hs2 rk full nn ok nn2 full2 ck c5 h10 h11
  walk_at "go*"
theorem law_true : ∀ ns : List Int, ns.length ≤ 63 → (∀ z ∈ ns, Builtin.Int.intBits z ≤ 1048576) → ∃ S', fn_law [.scr ns] [] = .ok (.f (.bl true)) S' := by
  intro ns hl hb
  obtain ⟨S', h⟩ := body_ok ns hl hb
  refine ⟨S', ?_⟩
  unfold fn_law
  generalize dn_law = dn at h
  walk_at "ev*"

end Law
open PySem PySem.W PyProof.Rows in
set_option maxRecDepth 100000 in
set_option maxHeartbeats 0 in
theorem PySem.Challenge.cw_taskheart_k17_heirs_holds : PySem.Challenge.rw_taskheart_k17_heirs.Holds := by
  w_on; o_law; k_head; (case hw => w_witness2)
  k_fill
  refine Law.walk (l := PySem.Challenge.rw_taskheart_k17_heirs) rfl rfl (fun w h Y => PySem.W.kIn_of Y) ?F
  case F =>
    intro w mg fa h KX G hmg
    refine' Law.all_mk Law.law_true KX G hmg ?g_Locks ?g_Known ?g_Unknown ?g_Taken ?g_Free ?g_Knot ?g_Strange ?a0 ?l0 ?c0 ?k0 ?i0 ?a1 ?l1 ?c1 ?k1 ?i1 ?a2 ?l2 ?c2 ?k2 ?a3 ?l3 ?c3 ?k3 ?a4 ?l4 ?c4 ?k4 ?a5 ?l5 ?c5 ?k5 ?i5 ?a6 ?l6 ?c6 ?k6 ?i6 ?a7 ?l7 ?c7 ?k7 ?a8 ?l8 ?c8 ?k8 ?a9 ?l9 ?c9 ?k9 ?i9 ?a10 ?l10 ?c10 ?k10 ?i10 ?a11 ?l11 ?c11 ?k11 ?i11 ?a12 ?l12 ?c12 ?k12 ?i12 ?a13 ?l13 ?c13 ?k13 ?a14 ?l14 ?c14 ?k14 ?a15 ?l15 ?c15 ?k15 ?a16 ?l16 ?c16 ?k16 ?a17 ?l17 ?c17 ?k17 ?a18 ?l18 ?c18 ?k18 ?a19 ?l19 ?c19 ?k19 ?a20 ?l20 ?c20 ?k20 ?a21 ?l21 ?c21 ?k21 ?a22 ?l22 ?c22 ?k22 ?a23 ?l23 ?c23 ?k23 ?a24 ?l24 ?c24 ?k24 ?a25 ?l25 ?c25 ?k25 ?a26 ?l26 ?c26 ?k26 ?a27 ?l27 ?c27 ?k27 ?z_dict ?z_int ?z_isinstance ?z_len ?z_list ?z_max ?z_min ?z_range ?z_str ?pg_Locks ?hd_Locks ?po_Locks ?sa_Locks ?nf_holders ?nf_lines ?nf_owns ?nf_wants ?mm_Locks ?kc_Locks ?xq_Known ?xk_Known ?xb_Known ?xt_Known ?xi_Known ?xq_Unknown ?xk_Unknown ?xb_Unknown ?xt_Unknown ?xi_Unknown ?xq_Taken ?xk_Taken ?xb_Taken ?xt_Taken ?xi_Taken ?xq_Free ?xk_Free ?xb_Free ?xt_Free ?xi_Free ?xq_Knot ?xk_Knot ?xb_Knot ?xt_Knot ?xi_Knot ?xq_Strange ?xk_Strange ?xb_Strange ?xt_Strange ?xi_Strange
    (case g_Locks => k_is)
    (case g_Known => k_is)
    (case g_Unknown => k_is)
    (case g_Taken => k_is)
    (case g_Free => k_is)
    (case g_Knot => k_is)
    (case g_Strange => k_is)
    (case a0 => k_is)
    (case l0 => k_is)
    (case c0 => k_is)
    (case k0 => k_is)
    (case i0 => k_is)
    (case a1 => k_is)
    (case l1 => k_is)
    (case c1 => k_is)
    (case k1 => k_is)
    (case i1 => k_is)
    (case a2 => k_is)
    (case l2 => k_is)
    (case c2 => k_is)
    (case k2 => k_is)
    (case a3 => k_is)
    (case l3 => k_is)
    (case c3 => k_is)
    (case k3 => k_is)
    (case a4 => k_is)
    (case l4 => k_is)
    (case c4 => k_is)
    (case k4 => k_is)
    (case a5 => k_is)
    (case l5 => k_is)
    (case c5 => k_is)
    (case k5 => k_is)
    (case i5 => k_is)
    (case a6 => k_is)
    (case l6 => k_is)
    (case c6 => k_is)
    (case k6 => k_is)
    (case i6 => k_is)
    (case a7 => k_is)
    (case l7 => k_is)
    (case c7 => k_is)
    (case k7 => k_is)
    (case a8 => k_is)
    (case l8 => k_is)
    (case c8 => k_is)
    (case k8 => k_is)
    (case a9 => k_is)
    (case l9 => k_is)
    (case c9 => k_is)
    (case k9 => k_is)
    (case i9 => k_is)
    (case a10 => k_is)
    (case l10 => k_is)
    (case c10 => k_is)
    (case k10 => k_is)
    (case i10 => k_is)
    (case a11 => k_is)
    (case l11 => k_is)
    (case c11 => k_is)
    (case k11 => k_is)
    (case i11 => k_is)
    (case a12 => k_is)
    (case l12 => k_is)
    (case c12 => k_is)
    (case k12 => k_is)
    (case i12 => k_is)
    (case a13 => k_is)
    (case l13 => k_is)
    (case c13 => k_is)
    (case k13 => k_is)
    (case a14 => k_is)
    (case l14 => k_is)
    (case c14 => k_is)
    (case k14 => k_is)
    (case a15 => k_is)
    (case l15 => k_is)
    (case c15 => k_is)
    (case k15 => k_is)
    (case a16 => k_is)
    (case l16 => k_is)
    (case c16 => k_is)
    (case k16 => k_is)
    (case a17 => k_is)
    (case l17 => k_is)
    (case c17 => k_is)
    (case k17 => k_is)
    (case a18 => k_is)
    (case l18 => k_is)
    (case c18 => k_is)
    (case k18 => k_is)
    (case a19 => k_is)
    (case l19 => k_is)
    (case c19 => k_is)
    (case k19 => k_is)
    (case a20 => k_is)
    (case l20 => k_is)
    (case c20 => k_is)
    (case k20 => k_is)
    (case a21 => k_is)
    (case l21 => k_is)
    (case c21 => k_is)
    (case k21 => k_is)
    (case a22 => k_is)
    (case l22 => k_is)
    (case c22 => k_is)
    (case k22 => k_is)
    (case a23 => k_is)
    (case l23 => k_is)
    (case c23 => k_is)
    (case k23 => k_is)
    (case a24 => k_is)
    (case l24 => k_is)
    (case c24 => k_is)
    (case k24 => k_is)
    (case a25 => k_is)
    (case l25 => k_is)
    (case c25 => k_is)
    (case k25 => k_is)
    (case a26 => k_is)
    (case l26 => k_is)
    (case c26 => k_is)
    (case k26 => k_is)
    (case a27 => k_is)
    (case l27 => k_is)
    (case c27 => k_is)
    (case k27 => k_is)
    (case z_dict => k_is)
    (case z_int => k_is)
    (case z_isinstance => k_is)
    (case z_len => k_is)
    (case z_list => k_is)
    (case z_max => k_is)
    (case z_min => k_is)
    (case z_range => k_is)
    (case z_str => k_is)
    (case pg_Locks => k_is)
    (case hd_Locks => k_is)
    (case po_Locks => k_is)
    (case sa_Locks => k_is)
    (case nf_holders => k_is)
    (case nf_lines => k_is)
    (case nf_owns => k_is)
    (case nf_wants => k_is)
    (case mm_Locks => k_is)
    (case kc_Locks => k_is)
    (case xq_Known => k_exc)
    (case xk_Known => k_is)
    (case xb_Known => k_is)
    (case xt_Known => k_is)
    (case xi_Known => k_is)
    (case xq_Unknown => k_exc)
    (case xk_Unknown => k_is)
    (case xb_Unknown => k_is)
    (case xt_Unknown => k_is)
    (case xi_Unknown => k_is)
    (case xq_Taken => k_exc)
    (case xk_Taken => k_is)
    (case xb_Taken => k_is)
    (case xt_Taken => k_is)
    (case xi_Taken => k_is)
    (case xq_Free => k_exc)
    (case xk_Free => k_is)
    (case xb_Free => k_is)
    (case xt_Free => k_is)
    (case xi_Free => k_is)
    (case xq_Knot => k_exc)
    (case xk_Knot => k_is)
    (case xb_Knot => k_is)
    (case xt_Knot => k_is)
    (case xi_Knot => k_is)
    (case xq_Strange => k_exc)
    (case xk_Strange => k_is)
    (case xb_Strange => k_is)
    (case xt_Strange => k_is)
    (case xi_Strange => k_is)
