import PyProof.Rows.All
import Wide.All
import OpenK.AllK
import Wide.FinOn
import HandS.ForMost
import HandS.ForExc
import HandS.IsInst
import HandS.TupLe
import HandS.Deep
import HandS.NoneIn
import HandS.Small
import HandS.Style
import HandS.EndBits
import HandS.DictComp
import HandS.WideBits
import HandS.ExcCtx
import HandS.HotCalls
import HandS.TryOnly
import KE.KxIndex
import HandS.RaiseMore
import HandS.Codes
import HandS.SetFor
import HandS.SortRule
import KE.DataFind
import HandS.SortKw
import KE.DataMinMax
import HandS.ExcIs
import HandS.Strs
import PySem.Challenge.RW_taskheart_k04_shown_and_read
set_option Elab.async false
set_option linter.all false
set_option maxRecDepth 100000
set_option maxHeartbeats 8000000
/-! Dn: a denotation for the part of Python that stands here. D: data; Store: objects by number; M: what a piece of code gives. -/
namespace Dn
open PySem L2

inductive D where
  | non | bl (b : Bool) | int (i : Int) | str (s : Str)
  | lst (xs : List D) | tup (xs : List D)
  | dct (kvs : List (Key × D))
  | scr (ns : List Int)
  | obj (n : Nat)
  deriving Inhabited

/-- a field's value: data, a list of the field's own, a dict of the field's own -/
inductive FV where
  | f (d : D) | o (xs : List D) | k (kvs : List (Key × D))
  deriving Inhabited
structure Ob where
  cls : Str
  fs : List (Str × FV)
abbrev Store := List Ob

inductive R (α : Type) where
  | ok (a : α) (S : Store) | exc (c : Str) (S : Store) | bad
abbrev M (α : Type) := Store → R α
def R.sat {α : Type} (r : R α) (P : α → Store → Prop) (E : Str → Store → Prop) : Prop := match r with
  | .ok a S => P a S
  | .exc c S => E c S
  | .bad => False
def M.ret {α : Type} (a : α) : M α := fun S => .ok a S
def M.bad {α : Type} : M α := fun _ => .bad
def M.raise {α : Type} (c : Str) : M α := fun S => .exc c S
def M.bind {α β : Type} (m : M α) (k : α → M β) : M β := fun S => match m S with
  | .ok a S' => k a S'
  | .exc c S' => .exc c S'
  | .bad => .bad
theorem sat_bind {α β : Type} {m : M α} {k : α → M β} {S : Store} {P : β → Store → Prop} {E : Str → Store → Prop} (h : (M.bind m k S).sat P E) : (m S).sat (fun a S' => (k a S').sat P E) E := by
  unfold M.bind at h
  cases e : m S with
  | ok a S' => rw [e] at h; exact h
  | exc c S' => rw [e] at h; exact h
  | bad => rw [e] at h; exact h
theorem sat_mono {α : Type} {r : R α} {P P' : α → Store → Prop} {E E' : Str → Store → Prop} (h : r.sat P E) (hp : ∀ a S, P a S → P' a S) (he : ∀ c S, E c S → E' c S) : r.sat P' E' := by
  cases r with
  | ok a S => exact hp a S h
  | exc c S => exact he c S h
  | bad => exact h

/-! ### the ghost state -/
inductive Loc where
  | ob (n : Nat) | fl (n : Nat) (f : Str)
/-- where the objects, and their fields' own lists, stand; sc: the script -/
structure Pi where
  at_ : Loc → Option Addr
  sc : Addr → List Int → Prop
instance : CoeFun Pi (fun _ => Loc → Option Addr) := ⟨Pi.at_⟩
def PiLe (p p' : Pi) : Prop := (∀ n a, p (.ob n) = some a → p' (.ob n) = some a) ∧ ∀ a ns, p.sc a ns → p'.sc a ns
theorem PiLe.refl (p : Pi) : PiLe p p := ⟨fun _ _ h => h, fun _ _ h => h⟩
theorem PiLe.trans {p q r : Pi} (a : PiLe p q) (b : PiLe q r) : PiLe p r := ⟨fun n x h => b.1 n x (a.1 n x h), fun n x h => b.2 n x (a.2 n x h)⟩
/-- the classes' addresses, the written part -/
structure Ct where
  cls : Str → Addr
  K : PySem.W.Frag
instance : CoeFun Ct (fun _ => Str → Addr) := ⟨Ct.cls⟩
structure G where
  F : Hp
  H : Hp
  p : Pi

mutual
inductive Rp (F : Hp) (p : Pi) : V → D → Prop where
  | non : Rp F p .non .non
  | bl (b : Bool) : Rp F p (.bl b) (.bl b)
  | int (i : Int) : Rp F p (.int i) (.int i)
  | str (x : Str) : Rp F p (.str x) (.str x)
  | lst {a : Addr} {vs : List V} {ds : List D} : F a = some (.lst vs) → RpA F p vs ds → Rp F p (.ref a) (.lst ds)
  | tup {a : Addr} {vs : List V} {ds : List D} : F a = some (.tup vs) → RpA F p vs ds → Rp F p (.ref a) (.tup ds)
  | dct {a : Addr} {vs : List (Key × V)} {ds : List (Key × D)} : F a = some (.dK vs) → RpK F p vs ds → Rp F p (.ref a) (.dct ds)
  | scr {a : Addr} {ns : List Int} : p.sc a ns → Rp F p (.ref a) (.scr ns)
  | obj {a : Addr} {n : Nat} : p (.ob n) = some a → Rp F p (.ref a) (.obj n)
inductive RpA (F : Hp) (p : Pi) : List V → List D → Prop where
  | nil : RpA F p [] []
  | cons {v : V} {d : D} {vs : List V} {ds : List D} : Rp F p v d → RpA F p vs ds → RpA F p (v :: vs) (d :: ds)
inductive RpK (F : Hp) (p : Pi) : List (Key × V) → List (Key × D) → Prop where
  | nil : RpK F p [] []
  | cons {k : Key} {v : V} {d : D} {vs : List (Key × V)} {ds : List (Key × D)} : Rp F p v d → RpK F p vs ds → RpK F p ((k, v) :: vs) ((k, d) :: ds)
end

section mono
variable {F F' : Hp} {p p' : Pi} (e : Same F F') (q : PiLe p p')
include e q
mutual
theorem Rp.mono : ∀ {v : V} {d : D}, Rp F p v d → Rp F' p' v d
  | _, _, .non => .non
  | _, _, .bl b => .bl b
  | _, _, .int i => .int i
  | _, _, .str x => .str x
  | _, _, .lst h t => .lst (e _ _ h) (RpA.mono t)
  | _, _, .tup h t => .tup (e _ _ h) (RpA.mono t)
  | _, _, .dct h t => .dct (e _ _ h) (RpK.mono t)
  | _, _, .scr h => .scr (q.2 _ _ h)
  | _, _, .obj h => .obj (q.1 _ _ h)
theorem RpA.mono : ∀ {vs : List V} {ds : List D}, RpA F p vs ds → RpA F' p' vs ds
  | _, _, .nil => .nil
  | _, _, .cons h t => .cons (Rp.mono h) (RpA.mono t)
theorem RpK.mono : ∀ {vs : List (Key × V)} {ds : List (Key × D)}, RpK F p vs ds → RpK F' p' vs ds
  | _, _, .nil => .nil
  | _, _, .cons h t => .cons (Rp.mono h) (RpK.mono t)
end
end mono

section lists
variable {F : Hp} {p : Pi}
theorem RpA.length : ∀ {vs : List V} {ds : List D}, RpA F p vs ds → vs.length = ds.length
  | _, _, .nil => rfl
  | _, _, .cons _ t => by simp [RpA.length t]
theorem RpA.append : ∀ {vs ws : List V} {ds es : List D}, RpA F p vs ds → RpA F p ws es → RpA F p (vs ++ ws) (ds ++ es)
  | _, _, _, _, .nil, s => s
  | _, _, _, _, .cons h t, s => .cons h (RpA.append t s)
theorem RpA.one {v : V} {d : D} (h : Rp F p v d) : RpA F p [v] [d] := .cons h .nil
theorem RpA.take : ∀ (n : Nat) {vs : List V} {ds : List D}, RpA F p vs ds → RpA F p (vs.take n) (ds.take n)
  | 0, _, _, _ => .nil
  | _ + 1, _, _, .nil => .nil
  | n + 1, _, _, .cons h t => .cons h (RpA.take n t)
theorem RpA.drop : ∀ (n : Nat) {vs : List V} {ds : List D}, RpA F p vs ds → RpA F p (vs.drop n) (ds.drop n)
  | 0, _, _, h => h
  | _ + 1, _, _, .nil => .nil
  | n + 1, _, _, .cons _ t => RpA.drop n t
theorem RpA.set : ∀ (n : Nat) {v : V} {d : D} {vs : List V} {ds : List D}, Rp F p v d → RpA F p vs ds → RpA F p (vs.set n v) (ds.set n d)
  | _, _, _, _, _, _, .nil => .nil
  | 0, _, _, _, _, h, .cons _ t => .cons h t
  | n + 1, _, _, _, _, h, .cons g t => .cons g (RpA.set n h t)
theorem RpA.eraseIdx : ∀ (n : Nat) {vs : List V} {ds : List D}, RpA F p vs ds → RpA F p (vs.eraseIdx n) (ds.eraseIdx n)
  | _, _, _, .nil => .nil
  | 0, _, _, .cons _ t => t
  | n + 1, _, _, .cons g t => .cons g (RpA.eraseIdx n t)
theorem RpA.get : ∀ (n : Nat) {vs : List V} {ds : List D} {d : D}, RpA F p vs ds → ds[n]? = some d → ∃ v, vs[n]? = some v ∧ Rp F p v d
  | _, _, _, _, .nil, e => by simp at e
  | 0, _, _, _, .cons h _, e => by simp at e; subst e; exact ⟨_, rfl, h⟩
  | n + 1, _, _, _, .cons _ t, e => by
    obtain ⟨v, h1, h2⟩ := RpA.get n t (by simpa using e)
    exact ⟨v, by simpa using h1, h2⟩
theorem RpA.getV : ∀ (n : Nat) {vs : List V} {ds : List D} {v : V}, RpA F p vs ds → vs[n]? = some v → ∃ d, ds[n]? = some d ∧ Rp F p v d
  | _, _, _, _, .nil, e => by simp at e
  | 0, _, _, _, .cons h _, e => by simp at e; subst e; exact ⟨_, rfl, h⟩
  | n + 1, _, _, _, .cons _ t, e => by
    obtain ⟨v, h1, h2⟩ := RpA.getV n t (by simpa using e)
    exact ⟨v, by simpa using h1, h2⟩
theorem RpA.ints : ∀ (ns : List Int), RpA F p (ns.map V.int) (ns.map D.int)
  | [] => .nil
  | n :: ns => .cons (.int n) (RpA.ints ns)
end lists

/-- what a piece of code leaves as it was; m: nothing of the store is written -/
structure Ext (m : Bool) (g g' : G) : Prop where
  same : Same g.F g'.F
  stay : ∀ b o, g.H b = some o → g.F b = none → (∀ l, g.p l ≠ some b) → g'.H b = some o ∧ g'.F b = none ∧ ∀ l, g'.p l ≠ some b
  obs : PiLe g.p g'.p
  dom : ∀ b, g'.H b = none → g.H b = none
  pure : m = true → g'.p = g.p ∧ ∀ l a o, g.p l = some a → g.H a = some o → g'.H a = some o
  frz : ∀ b o u, g.H b = some (.frz o u) → g'.H b = some (.frz o u)
theorem Ext.refl {m : Bool} (g : G) : Ext m g g := ⟨Same.refl _, fun _ _ h f q => ⟨h, f, q⟩, PiLe.refl _, fun _ h => h, fun _ => ⟨rfl, fun _ _ _ _ h => h⟩, fun _ _ _ h => h⟩
theorem Ext.down {m : Bool} {g g' : G} (e : Ext true g g') : Ext m g g' := ⟨e.same, e.stay, e.obs, e.dom, fun _ => e.pure rfl, e.frz⟩
theorem Ext.f {m : Bool} {g g' : G} (e : Ext m g g') : Ext false g g' := ⟨e.same, e.stay, e.obs, e.dom, (fun h => nomatch h), e.frz⟩
theorem Ext.trans {m : Bool} {g g1 g2 : G} (a : Ext m g g1) (b : Ext m g1 g2) : Ext m g g2 :=
  ⟨a.same.trans b.same, fun c o h f q => let ⟨h1, f1, q1⟩ := a.stay c o h f q; b.stay c o h1 f1 q1, a.obs.trans b.obs, fun c h => a.dom c (b.dom c h), fun h => by
    obtain ⟨p1, k1⟩ := a.pure h
    obtain ⟨p2, k2⟩ := b.pure h
    exact ⟨p2.trans p1, fun l c o x y => k2 l c o (by rw [p1]; exact x) (k1 l c o x y)⟩, fun c o u h => b.frz c o u (a.frz c o u h)⟩
theorem Ext.rp {m : Bool} {g g' : G} (e : Ext m g g') {v : V} {d : D} (h : Rp g.F g.p v d) : Rp g'.F g'.p v d := Rp.mono e.same e.obs h
theorem Ext.rpA {m : Bool} {g g' : G} (e : Ext m g g') {v : List V} {d : List D} (h : RpA g.F g.p v d) : RpA g'.F g'.p v d := RpA.mono e.same e.obs h
theorem Ext.rpK {m : Bool} {g g' : G} (e : Ext m g g') {v : List (Key × V)} {d : List (Key × D)} (h : RpK g.F g.p v d) : RpK g'.F g'.p v d := RpK.mono e.same e.obs h

/-- the script's list: known to the object, or of the written part -/
def Ks (K : PySem.W.Frag) (H : Hp) (a : Addr) (ns : List Int) : Prop := (∃ o, H a = some (.frz o (.lst (ns.map V.int)))) ∨ ∀ H', SqL K H' a (ns.map V.int)
theorem Ks.sq {K : PySem.W.Frag} {H : Hp} {a : Addr} {ns : List Int} (h : Ks K H a ns) : SqL K H a (ns.map V.int) := by
  rcases h with ⟨o, h⟩ | h
  · exact .inl (.inr ⟨o, h⟩)
  · exact h H
theorem Ks.keep {K : PySem.W.Frag} {H H' : Hp} {a : Addr} {ns : List Int} (h : Ks K H a ns) (k : ∀ a o u, H a = some (.frz o u) → H' a = some (.frz o u)) : Ks K H' a ns := by
  rcases h with ⟨o, h⟩ | h
  · exact .inl ⟨o, k _ _ _ h⟩
  · exact .inr h
/-- a field's value as it stands -/
def FvOk (g : G) (n : Nat) (f : Str) (v : V) : FV → Prop
  | .f d => Rp g.F g.p v d
  | .o xs => ∃ l vs, v = .ref l ∧ g.p (.fl n f) = some l ∧ g.H l = some (.lst vs) ∧ RpA g.F g.p vs xs
  | .k kvs => ∃ l vs, v = .ref l ∧ g.p (.fl n f) = some l ∧ g.H l = some (.dK vs) ∧ RpK g.F g.p vs kvs
inductive FsOk (g : G) (n : Nat) : List (Str × V) → List (Str × FV) → Prop where
  | nil : FsOk g n [] []
  | cons {f : Str} {v : V} {w : FV} {vs : List (Str × V)} {ws : List (Str × FV)} : FvOk g n f v w → FsOk g n vs ws → ws.lookup f = none → FsOk g n ((f, v) :: vs) ((f, w) :: ws)
/-- the class name of a list, a dict that more than one name may mean -/
abbrev rawC : Str := ""
def rawF (w : FV) : List (Str × FV) := [("", w)]
def RawAt (g : G) (a : Addr) (fs : List (Str × FV)) : Prop := (∃ vs xs, fs = rawF (.o xs) ∧ g.H a = some (.lst vs) ∧ RpA g.F g.p vs xs) ∨ (∃ vs xs, fs = rawF (.k xs) ∧ g.H a = some (.dK vs) ∧ RpK g.F g.p vs xs) ∨ ∃ vs xs o, fs = rawF (.f (.dct xs)) ∧ g.H a = some (.frz o (.dK vs)) ∧ RpK g.F g.p vs xs
theorem RawAt.mv {g g' : G} {a : Addr} {fs : List (Str × FV)} (e : Same g.F g'.F) (q : PiLe g.p g'.p) (hH : ∀ o, g.H a = some o → g'.H a = some o) (h : RawAt g a fs) : RawAt g' a fs := by
  rcases h with ⟨vs, xs, h1, h2, h3⟩ | ⟨vs, xs, h1, h2, h3⟩ | ⟨vs, xs, o, h1, h2, h3⟩
  · exact .inl ⟨vs, xs, h1, hH _ h2, RpA.mono e q h3⟩
  · exact .inr (.inl ⟨vs, xs, h1, hH _ h2, RpK.mono e q h3⟩)
  · exact .inr (.inr ⟨vs, xs, o, h1, hH _ h2, RpK.mono e q h3⟩)
structure SOk (ca : Ct) (g : G) (S : Store) : Prop where
  same : Same g.F g.H
  inj : ∀ l l' a, g.p l = some a → g.p l' = some a → l = l'
  out : ∀ l a, g.p l = some a → g.F a = none
  live : ∀ l a, g.p l = some a → ∃ o, g.H a = some o
  obs : ∀ n ob, S[n]? = some ob → ob.cls ≠ rawC → ∃ a dx fs, g.p (.ob n) = some a ∧ g.H a = some (.ins (ca ob.cls) dx fs) ∧ FsOk g n fs ob.fs
  sc : ∀ a ns, g.p.sc a ns → Ks ca.K g.H a ns
  lt : ∀ n a, g.p (.ob n) = some a → n < S.length
  lf : ∀ n f a, g.p (.fl n f) = some a → n < S.length
  raw : ∀ n ob, S[n]? = some ob → ob.cls = rawC → ∃ a, g.p (.ob n) = some a ∧ RawAt g a ob.fs

/-! ### the local names -/
inductive EV where
  | u | f (d : D) | o (xs : List D) | k (kvs : List (Key × D)) | x (a : Addr)
  deriving Inhabited
abbrev En := List EV
def EV.own : EV → Bool
  | .o _ => true
  | .k _ => true
  | _ => false
/-- an address of the frame's own -/
structure OwnAt (H0 : Hp) (g : G) (q : Addr) : Prop where
  out : g.F q = none
  nop : ∀ l, g.p l ≠ some q
  new : H0 q = none
def EvOk (H0 : Hp) (g : G) (v : Option V) : EV → Prop
  | .u => True
  | .f d => ∃ w, v = some w ∧ Rp g.F g.p w d
  | .o xs => ∃ q vs, v = some (.ref q) ∧ g.H q = some (.lst vs) ∧ RpA g.F g.p vs xs ∧ OwnAt H0 g q
  | .k xs => ∃ q vs, v = some (.ref q) ∧ g.H q = some (.dK vs) ∧ RpK g.F g.p vs xs ∧ OwnAt H0 g q
  | .x a => v = some (.ref a)
structure EnvOk (H0 : Hp) (g : G) (σ : L2.St) (env : En) : Prop where
  len : σ.length = env.length
  at_ : ∀ (i : Nat) v w, σ[i]? = some v → env[i]? = some w → EvOk H0 g v w
  apart : ∀ (i j : Nat) v w w', i ≠ j → σ[i]? = some (some v) → σ[j]? = some (some v) → env[i]? = some w → env[j]? = some w' → w.own = true → w'.own = true → False
theorem OwnAt.ext {m : Bool} {H0 : Hp} {g g' : G} {q : Addr} {o : HO} (h : OwnAt H0 g q) (hq : g.H q = some o) (e : Ext m g g') : OwnAt H0 g' q ∧ g'.H q = some o :=
  let ⟨a, b, c⟩ := e.stay q o hq h.out h.nop
  ⟨⟨b, c, h.new⟩, a⟩
theorem EvOk.ext {m : Bool} {H0 : Hp} {g g' : G} {v : Option V} (e : Ext m g g') : ∀ {w : EV}, EvOk H0 g v w → EvOk H0 g' v w
  | .u, _ => trivial
  | .f d, ⟨w, h1, h2⟩ => ⟨w, h1, e.rp h2⟩
  | .o xs, ⟨q, vs, h1, h2, h3, h4⟩ => let ⟨a, b⟩ := h4.ext h2 e; ⟨q, vs, h1, b, e.rpA h3, a⟩
  | .k xs, ⟨q, vs, h1, h2, h3, h4⟩ => let ⟨a, b⟩ := h4.ext h2 e; ⟨q, vs, h1, b, e.rpK h3, a⟩
  | .x a, h => h
theorem EnvOk.ext {m : Bool} {H0 : Hp} {g g' : G} {σ : L2.St} {env : En} (h : EnvOk H0 g σ env) (e : Ext m g g') : EnvOk H0 g' σ env :=
  ⟨h.len, fun i v w a b => (h.at_ i v w a b).ext e, h.apart⟩
theorem EnvOk.get {H0 : Hp} {g : G} {σ : L2.St} {env : En} (h : EnvOk H0 g σ env) {i : Nat} {w : EV} (e : env[i]? = some w) : ∃ v, σ[i]? = some v ∧ EvOk H0 g v w := by
  have hi : i < σ.length := by rw [h.len]; exact (List.getElem?_eq_some_iff.mp e).1
  exact ⟨σ[i], List.getElem?_eq_getElem hi, h.at_ i _ w (List.getElem?_eq_getElem hi) e⟩
theorem EnvOk.var {H0 : Hp} {g : G} {σ : L2.St} {env : En} (h : EnvOk H0 g σ env) {i : Nat} {d : D} (e : env[i]? = some (.f d)) : ∃ v, σ[i]? = some (some v) ∧ Rp g.F g.p v d := by
  obtain ⟨v, h1, w, h2, h3⟩ := h.get e
  exact ⟨w, by rw [h1, h2], h3⟩
/-- a slot takes data -/
theorem EnvOk.set {H0 : Hp} {g : G} {σ : L2.St} {env : En} (h : EnvOk H0 g σ env) (i : Nat) {v : V} {d : D} (r : Rp g.F g.p v d) : EnvOk H0 g (σ.set i (some v)) (env.set i (.f d)) := by
  refine ⟨by simp [h.len], fun j w x a b => ?_, fun j k w x x' ne a b c d' o o' => ?_⟩
  · by_cases hj : i = j
    · subst hj
      have hi : i < env.length := by
        have := (List.getElem?_eq_some_iff.mp b).1
        simpa using this
      rw [List.getElem?_set_self hi] at b
      rw [List.getElem?_set_self (by rw [h.len]; exact hi)] at a
      cases a; cases b
      exact ⟨v, rfl, r⟩
    · rw [List.getElem?_set_ne hj] at a b
      exact h.at_ j w x a b
  · by_cases hj : i = j
    · subst hj
      have hi : i < env.length := by
        have := (List.getElem?_eq_some_iff.mp c).1
        simpa using this
      rw [List.getElem?_set_self hi] at c
      cases c
      cases o
    · by_cases hk : i = k
      · subst hk
        have hi : i < env.length := by
          have := (List.getElem?_eq_some_iff.mp d').1
          simpa using this
        rw [List.getElem?_set_self hi] at d'
        cases d'
        cases o'
      · rw [List.getElem?_set_ne hj] at a c
        rw [List.getElem?_set_ne hk] at b d'
        exact h.apart j k w x x' ne a b c d' o o'
end Dn

namespace Dn
open PySem L2

/-! ### what is wanted of an expression -/
section
variable (m : Bool) (ca : Ct)
def okE (g : G) (Q : VK) : D → Store → Prop := fun d S' => ∀ g' v, Ext m g g' → SOk ca g' S' → Rp g'.F g'.p v d → Q v g'.H
def okT (g : G) (Q : Bool → Hp → Prop) : Bool → Store → Prop := fun b S' => ∀ g', Ext m g g' → SOk ca g' S' → Q b g'.H
def okA (g : G) (Q : List V → Hp → Prop) : List D → Store → Prop := fun ds S' => ∀ g' vs, Ext m g g' → SOk ca g' S' → RpA g'.F g'.p vs ds → Q vs g'.H
/-- a new list of nobody's -/
def okO (g : G) (Q : VK) : List D → Store → Prop := fun ds S' => ∀ g' q vs, Ext m g g' → SOk ca g' S' → g.H q = none → g'.H q = some (.lst vs) → g'.F q = none → (∀ l, g'.p l ≠ some q) → RpA g'.F g'.p vs ds → Q (.ref q) g'.H
/-- a new dict of nobody's -/
def okK (g : G) (Q : VK) : List (Key × D) → Store → Prop := fun ds S' => ∀ g' q vs, Ext m g g' → SOk ca g' S' → g.H q = none → g'.H q = some (.dK vs) → g'.F q = none → (∀ l, g'.p l ≠ some q) → RpK g'.F g'.p vs ds → Q (.ref q) g'.H
def exE (W : WX) (g : G) (σ : L2.St) : Str → Store → Prop := fun c S' => ∀ g', Ext m g g' → SOk ca g' S' → W (.ref (ca c)) none σ g'.H
variable {m ca}
theorem okE.mono {g g1 : G} {Q : VK} {d : D} {S : Store} (h : okE m ca g Q d S) (e : Ext m g g1) : okE m ca g1 Q d S := fun g' v e' s r => h g' v (e.trans e') s r
theorem okT.mono {g g1 : G} {Q : Bool → Hp → Prop} {d : Bool} {S : Store} (h : okT m ca g Q d S) (e : Ext m g g1) : okT m ca g1 Q d S := fun g' e' s => h g' (e.trans e') s
theorem okA.mono {g g1 : G} {Q : List V → Hp → Prop} {d : List D} {S : Store} (h : okA m ca g Q d S) (e : Ext m g g1) : okA m ca g1 Q d S := fun g' v e' s r => h g' v (e.trans e') s r
theorem okO.mono {g g1 : G} {Q : VK} {d : List D} {S : Store} (h : okO m ca g Q d S) (e : Ext m g g1) : okO m ca g1 Q d S := fun g' q v e' s n a b c r => h g' q v (e.trans e') s (e.dom _ n) a b c r
theorem okK.mono {g g1 : G} {Q : VK} {d : List (Key × D)} {S : Store} (h : okK m ca g Q d S) (e : Ext m g g1) : okK m ca g1 Q d S := fun g' q v e' s n a b c r => h g' q v (e.trans e') s (e.dom _ n) a b c r
theorem exE.mono {W : WX} {g g1 : G} {σ : L2.St} {c : Str} {S : Store} (h : exE m ca W g σ c S) (e : Ext m g g1) : exE m ca W g1 σ c S := fun g' e' s => h g' (e.trans e') s
end

/-- read as d for now: data, or a list (a dict) of the frame's own; while nothing of the store is written, of a field's own, too -/
def Bo (m : Bool) (g : G) (q : Addr) : Prop := g.F q = none ∧ ((∀ l, g.p l ≠ some q) ∨ (m = true ∧ ∃ l, g.p l = some q))
theorem Bo.ext {m : Bool} {g g' : G} {q : Addr} {o : HO} (h : Bo m g q) (hq : g.H q = some o) (hS : ∀ l a, g'.p l = some a → g'.F a = none) (e : Ext m g g') : Bo m g' q ∧ g'.H q = some o := by
  obtain ⟨h1, h2 | ⟨h2, l, h3⟩⟩ := h
  · obtain ⟨a, b, c⟩ := e.stay q o hq h1 h2
    exact ⟨⟨b, .inl c⟩, a⟩
  · obtain ⟨k1, k2⟩ := e.pure h2
    have k3 : g'.p l = some q := by rw [k1]; exact h3
    exact ⟨⟨hS l q k3, .inr ⟨h2, l, k3⟩⟩, k2 l q o h3 hq⟩
def Rb (m : Bool) (g : G) (v : V) (d : D) : Prop := Rp g.F g.p v d ∨ (∃ q vs xs, v = .ref q ∧ d = .lst xs ∧ g.H q = some (.lst vs) ∧ Bo m g q ∧ RpA g.F g.p vs xs) ∨
  ∃ q vs xs, v = .ref q ∧ d = .dct xs ∧ g.H q = some (.dK vs) ∧ Bo m g q ∧ RpK g.F g.p vs xs
theorem Rb.ext {m : Bool} {ca : Ct} {S : Store} {g g' : G} {v : V} {d : D} (h : Rb m g v d) (hS : SOk ca g' S) (e : Ext m g g') : Rb m g' v d := by
  rcases h with h | ⟨q, vs, xs, h1, h2, h3, h4, h6⟩ | ⟨q, vs, xs, h1, h2, h3, h4, h6⟩
  · exact .inl (e.rp h)
  · obtain ⟨a, b⟩ := h4.ext h3 hS.out e
    exact .inr (.inl ⟨q, vs, xs, h1, h2, b, a, e.rpA h6⟩)
  · obtain ⟨a, b⟩ := h4.ext h3 hS.out e
    exact .inr (.inr ⟨q, vs, xs, h1, h2, b, a, e.rpK h6⟩)
def okB (m : Bool) (ca : Ct) (g : G) (Q : VK) : D → Store → Prop := fun d S' => ∀ g' v, Ext m g g' → SOk ca g' S' → Rb m g' v d → Q v g'.H
def DB (m : Bool) (X : Cx) (W : WX) (ca : Ct) (e : Expr) (f : En → M D) : Prop :=
  ∃ t, PE X e t ∧ ∀ H0 g S σ env, SOk ca g S → EnvOk H0 g σ env → ∀ Q : VK, (f env S).sat (okB m ca g Q) (exE m ca W g σ) → t σ g.H Q
def DE (m : Bool) (X : Cx) (W : WX) (ca : Ct) (e : Expr) (f : En → M D) : Prop :=
  ∃ t, PE X e t ∧ ∀ H0 g S σ env, SOk ca g S → EnvOk H0 g σ env → ∀ Q : VK, (f env S).sat (okE m ca g Q) (exE m ca W g σ) → t σ g.H Q
def DO (m : Bool) (X : Cx) (W : WX) (ca : Ct) (e : Expr) (f : En → M (List D)) : Prop :=
  ∃ t, PE X e t ∧ ∀ H0 g S σ env, SOk ca g S → EnvOk H0 g σ env → ∀ Q : VK, (f env S).sat (okO m ca g Q) (exE m ca W g σ) → t σ g.H Q
def DK (m : Bool) (X : Cx) (W : WX) (ca : Ct) (e : Expr) (f : En → M (List (Key × D))) : Prop :=
  ∃ t, PE X e t ∧ ∀ H0 g S σ env, SOk ca g S → EnvOk H0 g σ env → ∀ Q : VK, (f env S).sat (okK m ca g Q) (exE m ca W g σ) → t σ g.H Q
def DT (m : Bool) (X : Cx) (W : WX) (ca : Ct) (e : Expr) (f : En → M Bool) : Prop :=
  ∃ t, PT X e t ∧ ∀ H0 g S σ env, SOk ca g S → EnvOk H0 g σ env → ∀ Q : Bool → Hp → Prop, (f env S).sat (okT m ca g Q) (exE m ca W g σ) → t σ g.H Q
def DW (m : Bool) (X : Cx) (W : WX) (ca : Ct) (e : Expr) (f : En → M Bool) : Prop :=
  ∃ t, PW X e t ∧ ∀ H0 g S σ env, SOk ca g S → EnvOk H0 g σ env → ∀ Q : Bool → Hp → Prop, (f env S).sat (okT m ca g Q) (exE m ca W g σ) → t σ g.H Q
def DA (m : Bool) (X : Cx) (W : WX) (ca : Ct) (es : List Expr) (f : En → M (List D)) : Prop :=
  ∃ t, PA X es t ∧ ∀ H0 g S σ env, SOk ca g S → EnvOk H0 g σ env → ∀ Q : List V → Hp → Prop, (f env S).sat (okA m ca g Q) (exE m ca W g σ) → t σ g.H Q

/-- a new list as data -/
def eO (f : En → M (List D)) : En → M D := fun env => M.bind (f env) fun xs => M.ret (.lst xs)
theorem DE.b {m : Bool} {X : Cx} {W : WX} {ca : Ct} {e : Expr} {f : En → M D} (h : DE m X W ca e f) : DB m X W ca e f := by
  obtain ⟨t, p, k⟩ := h
  exact ⟨t, p, fun H0 g S σ env hS hE Q h => k H0 g S σ env hS hE Q (sat_mono h (fun d S' q g' v e s r => q g' v e s (.inl r)) fun _ _ q => q)⟩
theorem DO.b {m : Bool} {X : Cx} {W : WX} {ca : Ct} {e : Expr} {f : En → M (List D)} (h : DO m X W ca e f) : DB m X W ca e (eO f) := by
  obtain ⟨t, p, k⟩ := h
  refine ⟨t, p, fun H0 g S σ env hS hE Q h => k H0 g S σ env hS hE Q (sat_mono (sat_bind h) (fun xs S' q g' a vs e s n h1 h2 h3 r => ?_) fun _ _ q => q)⟩
  have q : okB m ca g Q (.lst xs) S' := q
  exact q g' _ e s (.inr (.inl ⟨a, vs, xs, rfl, rfl, h1, ⟨h2, .inl h3⟩, r⟩))

/-! ### new objects -/
theorem FsOk.keep {m : Bool} {g g' : G} {n : Nat} (e : Ext m g g') (hp : ∀ l a, g.p l = some a → g'.p l = some a) (hH : ∀ l a o, g.p l = some a → g.H a = some o → g'.H a = some o) :
    ∀ {vs : List (Str × V)} {ws : List (Str × FV)}, FsOk g n vs ws → FsOk g' n vs ws
  | _, _, .nil => .nil
  | _, _, .cons (w := w) h t z => .cons (by
      cases w with
      | f d => exact e.rp h
      | o xs => obtain ⟨l, vs, h1, h2, h3, h4⟩ := h; exact ⟨l, vs, h1, hp _ _ h2, hH _ _ _ h2 h3, e.rpA h4⟩
      | k xs => obtain ⟨l, vs, h1, h2, h3, h4⟩ := h; exact ⟨l, vs, h1, hp _ _ h2, hH _ _ _ h2 h3, e.rpK h4⟩) (FsOk.keep e hp hH t) z
/-- all that stood stands, the places are the same -/
theorem SOk.keep {m : Bool} {ca : Ct} {g g' : G} {S : Store} (h : SOk ca g S) (e : Ext m g g') (hp : g'.p = g.p) (hH : ∀ l a o, g.p l = some a → g.H a = some o → g'.H a = some o) (hs : Same g'.F g'.H) (ho : ∀ l a, g.p l = some a → g'.F a = none) (hz : ∀ a o u, g.H a = some (.frz o u) → g'.H a = some (.frz o u)) : SOk ca g' S where
  same := hs
  inj := by rw [hp]; exact h.inj
  out := by rw [hp]; exact ho
  live := fun l a q => by
    rw [hp] at q
    obtain ⟨o, h1⟩ := h.live l a q
    exact ⟨o, hH l a o q h1⟩
  obs := fun n ob q hc => by
    obtain ⟨a, dx, fs, h1, h2, h3⟩ := h.obs n ob q hc
    exact ⟨a, dx, fs, by rw [hp]; exact h1, hH _ _ _ h1 h2, h3.keep e (fun l a z => by rw [hp]; exact z) hH⟩
  sc := fun a ns q => (h.sc a ns (by rw [← hp]; exact q)).keep hz
  lt := by rw [hp]; exact h.lt
  lf := by rw [hp]; exact h.lf
  raw := fun n ob q hc => by
    obtain ⟨a, h1, h2⟩ := h.raw n ob q hc
    exact ⟨a, by rw [hp]; exact h1, h2.mv e.same e.obs fun o x => hH _ _ _ h1 x⟩
theorem Same.updL {F H : Hp} {q : Addr} {o : HO} (h : Same F H) (n : H q = none) : Same F (upd H q o) := fun b u e => by
  rw [upd_ne (ne_of_none (h _ _ e) n)]; exact h _ _ e
theorem Same.updB {F H : Hp} {q : Addr} {o : HO} (h : Same F H) (n : H q = none) : Same (upd F q o) (upd H q o) := fun b u e => by
  by_cases z : b = q
  · subst z; rw [upd_same] at e ⊢; exact e
  · rw [upd_ne z] at e ⊢; exact h _ _ e
theorem Same.upF {F : Hp} {q : Addr} {o : HO} (n : F q = none) : Same F (upd F q o) := fun b u e => by
  rw [upd_ne (ne_of_none e n)]; exact e
section
variable {m : Bool} {ca : Ct} {g : G} {S : Store}
theorem SOk.free (h : SOk ca g S) {q : Addr} (n : g.H q = none) : g.F q = none := h.same.free n
theorem SOk.nop (h : SOk ca g S) {q : Addr} (n : g.H q = none) : ∀ l, g.p l ≠ some q := fun l e => by
  obtain ⟨o, h1⟩ := h.live l q e
  rw [n] at h1; cases h1
/-- new data -/
def G.fz (g : G) (q : Addr) (o : HO) : G := ⟨upd g.F q o, upd g.H q o, g.p⟩
/-- a new object of nobody's -/
def G.nw (g : G) (q : Addr) (o : HO) : G := ⟨g.F, upd g.H q o, g.p⟩
theorem ext_nw (hS : SOk ca g S) {q : Addr} (n : g.H q = none) (o : HO) : Ext m g (g.nw q o) :=
  ⟨Same.refl _, fun b u h f k => ⟨by show upd g.H q o b = _; rw [upd_ne (ne_of_none h n)]; exact h, f, k⟩, PiLe.refl _, fun b h => by
    have h : upd g.H q o b = none := h
    by_cases z : b = q
    · subst z; exact n
    · rw [upd_ne z] at h; exact h, fun _ => ⟨rfl, fun l a u _ h => by show upd g.H q o a = _; rw [upd_ne (ne_of_none h n)]; exact h⟩, fun a _ _ h => by show upd g.H q o a = _; rw [upd_ne (ne_of_none h n)]; exact h⟩
theorem sok_nw (hS : SOk ca g S) {q : Addr} (n : g.H q = none) (o : HO) : SOk ca (g.nw q o) S :=
  hS.keep (ext_nw (m := true) hS n o) rfl (fun l a u h1 h2 => by show upd g.H q o a = _; rw [upd_ne (ne_of_none h2 n)]; exact h2) (Same.updL hS.same n) hS.out fun a u w h => by show upd g.H q o a = _; rw [upd_ne (ne_of_none h n)]; exact h
theorem ext_fz (hS : SOk ca g S) {q : Addr} (n : g.H q = none) (o : HO) : Ext m g (g.fz q o) :=
  ⟨Same.upF (hS.free n), fun b u h f k => ⟨by show upd g.H q o b = _; rw [upd_ne (ne_of_none h n)]; exact h, by show upd g.F q o b = _; rw [upd_ne (ne_of_none h n)]; exact f, k⟩, PiLe.refl _, fun b h => by
    have h : upd g.H q o b = none := h
    by_cases z : b = q
    · subst z; exact n
    · rw [upd_ne z] at h; exact h, fun _ => ⟨rfl, fun l a u _ h => by show upd g.H q o a = _; rw [upd_ne (ne_of_none h n)]; exact h⟩, fun a _ _ h => by show upd g.H q o a = _; rw [upd_ne (ne_of_none h n)]; exact h⟩
theorem sok_fz (hS : SOk ca g S) {q : Addr} (n : g.H q = none) (o : HO) : SOk ca (g.fz q o) S :=
  hS.keep (ext_fz (m := true) hS n o) rfl (fun l a u h1 h2 => by show upd g.H q o a = _; rw [upd_ne (ne_of_none h2 n)]; exact h2) (Same.updB hS.same n) (fun l a e => by
    show upd g.F q o a = _
    obtain ⟨u, hu⟩ := hS.live l a e
    rw [upd_ne (ne_of_none hu n)]
    exact hS.out l a e) fun a u w h => by show upd g.H q o a = _; rw [upd_ne (ne_of_none h n)]; exact h
/-- what is nobody's becomes data -/
def G.fr (g : G) (q : Addr) (o : HO) : G := ⟨upd g.F q o, g.H, g.p⟩
theorem ext_fr {g0 : G} (e : Ext m g0 g) {q : Addr} {o : HO} (n : g0.H q = none) (hf : g.F q = none) : Ext m g0 (g.fr q o) :=
  ⟨e.same.trans (Same.upF hf), fun b u h f k => by
    obtain ⟨h1, f1, k1⟩ := e.stay b u h f k
    refine ⟨h1, ?_, k1⟩
    show upd g.F q o b = _
    rw [upd_ne (ne_of_none h n)]
    exact f1, e.obs, e.dom, e.pure, e.frz⟩
theorem sok_fr (hS : SOk ca g S) {q : Addr} {o : HO} (hq : g.H q = some o) (hf : g.F q = none) (hp : ∀ l, g.p l ≠ some q) : SOk ca (g.fr q o) S := by
  have ob : PiLe g.p (g.fr q o).p := PiLe.refl _
  have sm : Same g.F (g.fr q o).F := Same.upF hf
  refine ⟨fun b u e => ?_, hS.inj, fun l a e => ?_, hS.live, fun n o' h hc => ?_, hS.sc, hS.lt, hS.lf, fun n o' h hc => (hS.raw n o' h hc).imp fun a h => ⟨h.1, h.2.mv sm ob fun _ x => x⟩⟩
  · have e : upd g.F q o b = some u := e
    by_cases z : b = q
    · subst z; rw [upd_same] at e; cases e; exact hq
    · rw [upd_ne z] at e; exact hS.same _ _ e
  · show upd g.F q o a = none
    rw [upd_ne (fun z => hp l (by rw [← z]; exact e))]
    exact hS.out l a e
  · obtain ⟨a, dx, fs, h1, h2, h3⟩ := hS.obs n o' h hc
    refine ⟨a, dx, fs, h1, h2, ?_⟩
    clear h1 h2 h
    generalize o'.fs = ws at h3
    induction h3 with
    | nil => exact .nil
    | @cons f v w vs ws h t z ih =>
      refine .cons ?_ ih z
      cases w with
      | f d => exact Rp.mono sm ob h
      | o xs => obtain ⟨l, vs, h1, h2, h3, h4⟩ := h; exact ⟨l, vs, h1, h2, h3, RpA.mono sm ob h4⟩
      | k xs => obtain ⟨l, vs, h1, h2, h3, h4⟩ := h; exact ⟨l, vs, h1, h2, h3, RpK.mono sm ob h4⟩
theorem rp_lst {q : Addr} {vs : List V} {ds : List D} (hn : g.F q = none) (r : RpA g.F g.p vs ds) : Rp (upd g.F q (.lst vs)) g.p (.ref q) (.lst ds) :=
  .lst upd_same (RpA.mono (Same.upF hn) (PiLe.refl _) r)
theorem rp_tup {q : Addr} {vs : List V} {ds : List D} (hn : g.F q = none) (r : RpA g.F g.p vs ds) : Rp (upd g.F q (.tup vs)) g.p (.ref q) (.tup ds) :=
  .tup upd_same (RpA.mono (Same.upF hn) (PiLe.refl _) r)
theorem rp_dct {q : Addr} {vs : List (Key × V)} {ds : List (Key × D)} (hn : g.F q = none) (r : RpK g.F g.p vs ds) : Rp (upd g.F q (.dK vs)) g.p (.ref q) (.dct ds) :=
  .dct upd_same (RpK.mono (Same.upF hn) (PiLe.refl _) r)
end

/-! ### sequencing -/
section
variable {m : Bool} {ca : Ct} {W : WX} {α β : Type}
theorem seqE {c : M α} {k : α → M D} {S : Store} {g : G} {σ : L2.St} {Q : VK} (h : (M.bind c k S).sat (okE m ca g Q) (exE m ca W g σ)) :
    (c S).sat (fun a S' => ∀ g', Ext m g g' → (k a S').sat (okE m ca g' Q) (exE m ca W g' σ)) (exE m ca W g σ) :=
  sat_mono (sat_bind h) (fun a S' h g' e => sat_mono h (fun d S2 q => q.mono e) fun c S2 q => q.mono e) fun _ _ q => q
theorem seqO {c : M α} {k : α → M (List D)} {S : Store} {g : G} {σ : L2.St} {Q : VK} (h : (M.bind c k S).sat (okO m ca g Q) (exE m ca W g σ)) :
    (c S).sat (fun a S' => ∀ g', Ext m g g' → (k a S').sat (okO m ca g' Q) (exE m ca W g' σ)) (exE m ca W g σ) :=
  sat_mono (sat_bind h) (fun a S' h g' e => sat_mono h (fun d S2 q => q.mono e) fun c S2 q => q.mono e) fun _ _ q => q
theorem seqK {c : M α} {k : α → M (List (Key × D))} {S : Store} {g : G} {σ : L2.St} {Q : VK} (h : (M.bind c k S).sat (okK m ca g Q) (exE m ca W g σ)) :
    (c S).sat (fun a S' => ∀ g', Ext m g g' → (k a S').sat (okK m ca g' Q) (exE m ca W g' σ)) (exE m ca W g σ) :=
  sat_mono (sat_bind h) (fun a S' h g' e => sat_mono h (fun d S2 q => q.mono e) fun c S2 q => q.mono e) fun _ _ q => q
theorem seqT {c : M α} {k : α → M Bool} {S : Store} {g : G} {σ : L2.St} {Q : Bool → Hp → Prop} (h : (M.bind c k S).sat (okT m ca g Q) (exE m ca W g σ)) :
    (c S).sat (fun a S' => ∀ g', Ext m g g' → (k a S').sat (okT m ca g' Q) (exE m ca W g' σ)) (exE m ca W g σ) :=
  sat_mono (sat_bind h) (fun a S' h g' e => sat_mono h (fun d S2 q => q.mono e) fun c S2 q => q.mono e) fun _ _ q => q
theorem seqA {c : M α} {k : α → M (List D)} {S : Store} {g : G} {σ : L2.St} {Q : List V → Hp → Prop} (h : (M.bind c k S).sat (okA m ca g Q) (exE m ca W g σ)) :
    (c S).sat (fun a S' => ∀ g', Ext m g g' → (k a S').sat (okA m ca g' Q) (exE m ca W g' σ)) (exE m ca W g σ) :=
  sat_mono (sat_bind h) (fun a S' h g' e => sat_mono h (fun d S2 q => q.mono e) fun c S2 q => q.mono e) fun _ _ q => q
theorem seqB {c : M α} {k : α → M D} {S : Store} {g : G} {σ : L2.St} {Q : VK} (h : (M.bind c k S).sat (okB m ca g Q) (exE m ca W g σ)) :
    (c S).sat (fun a S' => ∀ g', Ext m g g' → (k a S').sat (okB m ca g' Q) (exE m ca W g' σ)) (exE m ca W g σ) :=
  sat_mono (sat_bind h) (fun a S' h g' e => sat_mono h (fun d S2 q g2 v e2 s r => q g2 v (e.trans e2) s r) fun c S2 q => q.mono e) fun _ _ q => q
end
def M.lift {α : Type} (o : Option α) : M α := fun S => match o with
  | some a => .ok a S
  | none => .bad
theorem sat_lift {α : Type} {o : Option α} {S : Store} {P : α → Store → Prop} {E : Str → Store → Prop} (h : (M.lift o S).sat P E) : ∃ a, o = some a ∧ P a S := by
  cases o with
  | none => exact h.elim
  | some a => exact ⟨a, rfl, h⟩

/-! ### names, constants -/
def eVar (i : Nat) : En → M D := fun env => match env[i]? with
  | some (.f d) => M.ret d
  | _ => M.bad
def eC (d : D) : En → M D := fun _ => M.ret d
section
variable {m : Bool} {X : Cx} {W : WX} {ca : Ct}
theorem eVar_get {i : Nat} {env : En} {S : Store} {P : D → Store → Prop} {E : Str → Store → Prop} (h : (eVar i env S).sat P E) : ∃ d, env[i]? = some (.f d) ∧ P d S := by
  unfold eVar at h
  cases e : env[i]? with
  | none => rw [e] at h; exact h.elim
  | some w =>
    rw [e] at h
    cases w with
    | f d => exact ⟨d, rfl, h⟩
    | u => exact h.elim
    | x a => exact h.elim
    | o xs => exact h.elim
    | k xs => exact h.elim
theorem de_var (i : Nat) {x : Str} {pos : Pos} (hN : X.N[i]? = some x := by rfl) (hv : Vis X.env.scope x := by first | exact Or.inl rfl | exact Or.inr (Or.inl rfl) | exact Or.inr (Or.inr rfl)) (hd : (x == ("__debug__" : Str)) = false := by decide)
    (hcd : (x == ("__classdict__" : Str)) = false := by decide) : DE m X W ca (.Name x pos) (eVar i) :=
  ⟨_, pe_var hN hv hd hcd, fun H0 g S σ env hS hE Q h => by
    obtain ⟨d, e, h⟩ := eVar_get h
    obtain ⟨v, h1, h2⟩ := hE.var e
    exact ⟨v, h1, h g v (Ext.refl g) hS h2⟩⟩
/-- a name of any kind, read for now -/
def eVarB (i : Nat) : En → M D := fun env => match env[i]? with
  | some (.f d) => M.ret d
  | some (.o xs) => M.ret (.lst xs)
  | some (.k xs) => M.ret (.dct xs)
  | _ => M.bad
theorem db_var (i : Nat) {x : Str} {pos : Pos} (hN : X.N[i]? = some x := by rfl) (hv : Vis X.env.scope x := by first | exact Or.inl rfl | exact Or.inr (Or.inl rfl) | exact Or.inr (Or.inr rfl)) (hd : (x == ("__debug__" : Str)) = false := by decide)
    (hcd : (x == ("__classdict__" : Str)) = false := by decide) : DB m X W ca (.Name x pos) (eVarB i) :=
  ⟨_, pe_var hN hv hd hcd, fun H0 g S σ env hS hE Q h => by
    unfold eVarB at h
    cases e : env[i]? with
    | none => rw [e] at h; exact h.elim
    | some w =>
      rw [e] at h
      obtain ⟨v, h1, h2⟩ := hE.get e
      cases w with
      | u => exact h.elim
      | x a => exact h.elim
      | f d =>
        obtain ⟨w, rfl, r⟩ := h2
        exact ⟨w, h1, (show okB m ca g Q d S from h) g w (Ext.refl g) hS (.inl r)⟩
      | o xs =>
        obtain ⟨q, vs, rfl, h3, h4, h5⟩ := h2
        exact ⟨.ref q, h1, (show okB m ca g Q (.lst xs) S from h) g _ (Ext.refl g) hS (.inr (.inl ⟨q, vs, xs, rfl, rfl, h3, ⟨h5.out, .inl h5.nop⟩, h4⟩))⟩
      | k xs =>
        obtain ⟨q, vs, rfl, h3, h4, h5⟩ := h2
        exact ⟨.ref q, h1, (show okB m ca g Q (.dct xs) S from h) g _ (Ext.refl g) hS (.inr (.inr ⟨q, vs, xs, rfl, rfl, h3, ⟨h5.out, .inl h5.nop⟩, h4⟩))⟩⟩
theorem de_int {i j pos} : DE m X W ca (.Constant (.int i) j pos) (eC (.int i)) := ⟨_, pe_int, fun H0 g S σ env hS hE Q h => h g _ (Ext.refl g) hS (.int i)⟩
theorem de_bl {i j pos} : DE m X W ca (.Constant (.bool i) j pos) (eC (.bl i)) := ⟨_, pe_bl, fun H0 g S σ env hS hE Q h => h g _ (Ext.refl g) hS (.bl i)⟩
theorem de_non {j pos} : DE m X W ca (.Constant .none j pos) (eC .non) := ⟨_, pe_non, fun H0 g S σ env hS hE Q h => h g _ (Ext.refl g) hS .non⟩
theorem de_str {x j pos} : DE m X W ca (.Constant (.str x) j pos) (eC (.str x)) := ⟨_, pe_str, fun H0 g S σ env hS hE Q h => h g _ (Ext.refl g) hS (.str x)⟩
/-- a constant of the module that is an int -/
theorem de_glob {x : Str} {i : Int} {t : Tok} {pos : Pos} (hg : Gl X x) (hm : X.mg x = some (.int i t)) (hd : (x == ("__debug__" : Str)) = false := by decide) : DE m X W ca (.Name x pos) (eC (.int i)) :=
  ⟨_, pe_glob (v := .int i) hg hm ⟨t, rfl⟩ hd, fun H0 g S σ env hS hE Q h => h g _ (Ext.refl g) hS (.int i)⟩
/-- a new list becomes data -/
theorem de_own {e : Expr} {f : En → M (List D)} (h : DO m X W ca e f) : DE m X W ca e (eO f) := by
  obtain ⟨t, p, k⟩ := h
  refine ⟨t, p, fun H0 g S σ env hS hE Q h => k H0 g S σ env hS hE Q (sat_mono (sat_bind h) (fun xs S' q g' a vs e1 s1 n h1 h2 h3 r => ?_) fun _ _ q => q)⟩
  have q : okE m ca g Q (.lst xs) S' := q
  exact q (g'.fr a (.lst vs)) (.ref a) (ext_fr e1 n h2) (sok_fr s1 h1 h2 h3) (rp_lst h2 r)
theorem de_ownK {e : Expr} {f : En → M (List (Key × D))} (h : DK m X W ca e f) : DE m X W ca e (fun env => M.bind (f env) fun xs => M.ret (.dct xs)) := by
  obtain ⟨t, p, k⟩ := h
  refine ⟨t, p, fun H0 g S σ env hS hE Q h => k H0 g S σ env hS hE Q (sat_mono (sat_bind h) (fun xs S' q g' a vs e1 s1 n h1 h2 h3 r => ?_) fun _ _ q => q)⟩
  have q : okE m ca g Q (.dct xs) S' := q
  exact q (g'.fr a (.dK vs)) (.ref a) (ext_fr e1 n h2) (sok_fr s1 h1 h2 h3) (rp_dct h2 r)

/-! ### argument lists, displays -/
def aNil : En → M (List D) := fun _ => M.ret []
def aCons (f : En → M D) (r : En → M (List D)) : En → M (List D) := fun env => M.bind (f env) fun d => M.bind (r env) fun ds => M.ret (d :: ds)
theorem da_nil : DA m X W ca [] aNil := ⟨_, pa_nil, fun H0 g S σ env hS hE Q h => h g [] (Ext.refl g) hS .nil⟩
theorem da_cons {e : Expr} {es : List Expr} {f : En → M D} {r : En → M (List D)} (h1 : DE m X W ca e f) (h2 : DA m X W ca es r) (hs : starEach (e :: es) X.env = (false, eval e X.env) :: starEach es X.env := by rfl) : DA m X W ca (e :: es) (aCons f r) := by
  obtain ⟨t, p, k⟩ := h1
  obtain ⟨t2, p2, k2⟩ := h2
  refine ⟨_, pa_cons p p2 hs, fun H0 g S σ env hS hE Q h => ?_⟩
  refine k H0 g S σ env hS hE _ (sat_mono (seqA h) (fun d S1 q g1 v e1 s1 r1 => ?_) fun _ _ q => q)
  refine k2 H0 g1 S1 σ env s1 (hE.ext e1) _ (sat_mono (seqA (q g1 e1)) (fun ds S2 q2 g2 vs e2 s2 r2 => ?_) fun _ _ q => q)
  exact (show okA m ca g2 Q (d :: ds) S2 from q2 g2 e2) g2 _ (Ext.refl g2) s2 (.cons (e2.rp r1) r2)
def lim : Nat := 1000000
theorem lim_line : lim ≤ sizeLine := by rw [sizeLine_eq]; decide
theorem lim_lt {n : Nat} (h : n ≤ lim) : n ≤ sizeLine := Nat.le_trans h lim_line
theorem lim_lt' {n : Nat} (h : n < lim) : n < sizeLine := Nat.lt_of_lt_of_le h lim_line
def eTup (a : En → M (List D)) : En → M D := fun env => M.bind (a env) fun ds => if ds.length ≤ lim then M.ret (.tup ds) else M.bad
def eLst (a : En → M (List D)) : En → M (List D) := fun env => M.bind (a env) fun ds => if ds.length ≤ lim then M.ret ds else M.bad
theorem de_tup {es : List Expr} {x1 : Nat} {pos : Pos} {a : En → M (List D)} (h : DA m X W ca es a) : DE m X W ca (.Tuple es x1 pos) (eTup a) := by
  obtain ⟨t, p, k⟩ := h
  refine ⟨_, pe_tup p, fun H0 g S σ env hS hE Q h => k H0 g S σ env hS hE _ (sat_mono (seqE h) (fun ds S1 q g1 vs e1 s1 r1 => ?_) fun _ _ q => q)⟩
  have q := q g1 e1
  by_cases hl : ds.length ≤ lim
  · rw [if_pos hl] at q
    refine ⟨by rw [r1.length]; exact lim_lt hl, fun a ha => ?_⟩
    exact (show okE m ca g1 Q (.tup ds) S1 from q) (g1.fz a (.tup vs)) _ (ext_fz s1 ha _) (sok_fz s1 ha _) (rp_tup (s1.free ha) r1)
  · rw [if_neg hl] at q; exact q.elim
theorem do_lst {es : List Expr} {pos : Pos} {a : En → M (List D)} (h : DA m X W ca es a) : DO m X W ca (.List es pos) (eLst a) := by
  obtain ⟨t, p, k⟩ := h
  refine ⟨_, pe_lst p, fun H0 g S σ env hS hE Q h => k H0 g S σ env hS hE _ (sat_mono (seqO h) (fun ds S1 q g1 vs e1 s1 r1 => ?_) fun _ _ q => q)⟩
  have q := q g1 e1
  by_cases hl : ds.length ≤ lim
  · rw [if_pos hl] at q
    refine ⟨by rw [r1.length]; exact lim_lt hl, fun a ha => ?_⟩
    exact (show okO m ca g1 Q ds S1 from q) (g1.nw a (.lst vs)) a vs (ext_nw s1 ha _) (sok_nw s1 ha _) ha upd_same (s1.free ha) (s1.nop ha) r1
  · rw [if_neg hl] at q; exact q.elim
end
end Dn

namespace Dn
open PySem L2

/-! ### operators of two places -/
/-- op tells what r gives -/
def RelOp (r : R2) (op : D → D → Option D) : Prop := ∀ (m : Bool) (ca : Ct) (g : G) (S : Store) (x y : V) (dx dy z : D) (Q : VK), SOk ca g S → Rb m g x dx → Rb m g y dy → op dx dy = some z → okE m ca g Q z S → r x y g.H Q
def eBin (op : D → D → Option D) (a b : En → M D) : En → M D := fun env => M.bind (a env) fun x => M.bind (b env) fun y => M.lift (op x y)
def tBin (op : D → D → Option Bool) (a b : En → M D) : En → M Bool := fun env => M.bind (a env) fun x => M.bind (b env) fun y => M.lift (op x y)
def obl (o : D → D → Option Bool) : D → D → Option D := fun x y => (o x y).map D.bl
section
variable {m : Bool} {X : Cx} {W : WX} {ca : Ct} {a b e : Expr} {fa fb : En → M D} {pos : Pos}
theorem run2 {ta tb : TE} {r : R2} {op : D → D → Option D} (ho : RelOp r op)
    (ka : ∀ H0 g S σ env, SOk ca g S → EnvOk H0 g σ env → ∀ Q : VK, (fa env S).sat (okB m ca g Q) (exE m ca W g σ) → ta σ g.H Q)
    (kb : ∀ H0 g S σ env, SOk ca g S → EnvOk H0 g σ env → ∀ Q : VK, (fb env S).sat (okB m ca g Q) (exE m ca W g σ) → tb σ g.H Q) :
    ∀ H0 g S σ env, SOk ca g S → EnvOk H0 g σ env → ∀ Q : VK, (eBin op fa fb env S).sat (okE m ca g Q) (exE m ca W g σ) → tOp r ta tb σ g.H Q := fun H0 g S σ env hS hE Q h => by
  refine ka H0 g S σ env hS hE _ (sat_mono (seqE h) (fun x S1 q g1 v e1 s1 r1 => ?_) fun _ _ q => q)
  refine kb H0 g1 S1 σ env s1 (hE.ext e1) _ (sat_mono (seqE (q g1 e1)) (fun y S2 q2 g2 u e2 s2 r2 => ?_) fun _ _ q => q)
  obtain ⟨z, hz, k⟩ := sat_lift (q2 g2 e2)
  exact ho m ca g2 S2 v u x y z Q s2 (r1.ext s2 e2) r2 hz k
theorem de_bin {o : Operator} {r : R2} {op : D → D → Option D} (hr : OpR X (binaryOp o) r) (ho : RelOp r op) (ha : DB m X W ca a fa) (hb : DB m X W ca b fb) : DE m X W ca (.BinOp a o b pos) (eBin op fa fb) := by
  obtain ⟨ta, pa, ka⟩ := ha
  obtain ⟨tb, pb, kb⟩ := hb
  exact ⟨_, pe_op hr pa pb, run2 ho ka kb⟩
theorem de_cmp {o : CmpOp} {r : R2} {op : D → D → Option Bool} (hr : OpR X (compareOp o) r) (ho : RelOp r (obl op)) (ha : DB m X W ca a fa) (hb : DB m X W ca b fb) (hm : behindInMarks o b = false) : DE m X W ca (.Compare a [o] [b] pos) (eBin (obl op) fa fb) := by
  obtain ⟨ta, pa, ka⟩ := ha
  obtain ⟨tb, pb, kb⟩ := hb
  exact ⟨_, pe_cmpR hr pa pb hm, run2 ho ka kb⟩
theorem dt_cmp {o : CmpOp} {r : R2} {op : D → D → Option Bool} (hr : OpR X (compareOp o) r) (ho : RelOp r (obl op)) (ha : DB m X W ca a fa) (hb : DB m X W ca b fb) (hm : behindInMarks o b = false) : DT m X W ca (.Compare a [o] [b] pos) (tBin op fa fb) := by
  obtain ⟨ta, pa, ka⟩ := ha
  obtain ⟨tb, pb, kb⟩ := hb
  refine ⟨_, pt_cmpR hr pa pb hm, fun H0 g S σ env hS hE Q h => ?_⟩
  refine run2 ho ka kb H0 g S σ env hS hE (fun x H' => ∃ k, x = .bl k ∧ Q k H') ?_
  unfold tBin at h
  unfold eBin
  cases e1 : fa env S with
  | bad => unfold M.bind at h; rw [e1] at h; exact h.elim
  | exc c S' => unfold M.bind at h ⊢; rw [e1] at h ⊢; exact h
  | ok x S1 =>
    unfold M.bind at h ⊢
    rw [e1] at h ⊢
    dsimp only at h ⊢
    cases e2 : fb env S1 with
    | bad => rw [e2] at h; exact h.elim
    | exc c S' => rw [e2] at h; exact h
    | ok y S2 =>
      rw [e2] at h
      dsimp only at h ⊢
      obtain ⟨k, hk, q⟩ := sat_lift h
      have q : okT m ca g Q k S2 := q
      unfold M.lift obl
      rw [hk]
      show okE m ca g (fun x H' => ∃ k, x = V.bl k ∧ Q k H') (.bl k) S2
      intro g' v e s r
      cases r
      exact ⟨k, rfl, q g' e s⟩

/-! ### ints, texts, lists -/
theorem Rb.int {m : Bool} {g : G} {x : V} {i : Int} (r : Rb m g x (.int i)) : x = .int i := by
  rcases r with r | ⟨_, _, _, _, h, _⟩ | ⟨_, _, _, _, h, _⟩
  · cases r; rfl
  · cases h
  · cases h
theorem Rb.str {m : Bool} {g : G} {x : V} {i : Str} (r : Rb m g x (.str i)) : x = .str i := by
  rcases r with r | ⟨_, _, _, _, h, _⟩ | ⟨_, _, _, _, h, _⟩
  · cases r; rfl
  · cases h
  · cases h
theorem Rb.bl {m : Bool} {g : G} {x : V} {i : Bool} (r : Rb m g x (.bl i)) : x = .bl i := by
  rcases r with r | ⟨_, _, _, _, h, _⟩ | ⟨_, _, _, _, h, _⟩
  · cases r; rfl
  · cases h
  · cases h
theorem Rb.non {m : Bool} {g : G} {x : V} (r : Rb m g x .non) : x = .non := by
  rcases r with r | ⟨_, _, _, _, h, _⟩ | ⟨_, _, _, _, h, _⟩
  · cases r; rfl
  · cases h
  · cases h
theorem Rb.lst {m : Bool} {ca : Ct} {S : Store} {g : G} (hS : SOk ca g S) {x : V} {ds : List D} (r : Rb m g x (.lst ds)) : ∃ a vs, x = .ref a ∧ g.H a = some (.lst vs) ∧ RpA g.F g.p vs ds := by
  rcases r with r | ⟨q, vs, xs, h1, h2, h3, h4, h6⟩ | ⟨_, _, _, _, h, _⟩
  · cases r with
    | lst h t => exact ⟨_, _, rfl, hS.same _ _ h, t⟩
  · cases h2; exact ⟨q, vs, h1, h3, h6⟩
  · cases h
theorem Rb.tup {m : Bool} {ca : Ct} {S : Store} {g : G} (hS : SOk ca g S) {x : V} {ds : List D} (r : Rb m g x (.tup ds)) : ∃ a vs, x = .ref a ∧ g.H a = some (.tup vs) ∧ RpA g.F g.p vs ds := by
  rcases r with r | ⟨_, _, _, _, h, _⟩ | ⟨_, _, _, _, h, _⟩
  · cases r with
    | tup h t => exact ⟨_, _, rfl, hS.same _ _ h, t⟩
  · cases h
  · cases h
/-- as read off the heap -/
theorem Rb.h {m : Bool} {ca : Ct} {S : Store} {g : G} (hS : SOk ca g S) {x : V} {d : D} (r : Rb m g x d) : Rp g.H g.p x d := by
  rcases r with r | ⟨q, vs, xs, rfl, rfl, h3, h4, h6⟩ | ⟨q, vs, xs, rfl, rfl, h3, h4, h6⟩
  · exact Rp.mono hS.same (PiLe.refl _) r
  · exact .lst h3 (RpA.mono hS.same (PiLe.refl _) h6)
  · exact .dct h3 (RpK.mono hS.same (PiLe.refl _) h6)
theorem relI0 {g : Int → Int → Int} {op : D → D → Option D} (h : ∀ x y z, op x y = some z → ∃ i j, x = .int i ∧ y = .int j ∧ z = .int (g i j)) : RelOp (rI0 fun i j => .int (g i j)) op := fun m ca g0 S x y dx dy z Q hS r1 r2 e k => by
  obtain ⟨i, j, rfl, rfl, rfl⟩ := h _ _ _ e
  cases r1.int; cases r2.int
  exact ⟨i, j, rfl, rfl, k g0 _ (Ext.refl _) hS (.int _)⟩
theorem relI {C : Int → Int → Prop} {g : Int → Int → Int} {op : D → D → Option D} (h : ∀ x y z, op x y = some z → ∃ i j, x = .int i ∧ y = .int j ∧ C i j ∧ z = .int (g i j)) : RelOp (rI C fun i j => .int (g i j)) op := fun m ca g0 S x y dx dy z Q hS r1 r2 e k => by
  obtain ⟨i, j, rfl, rfl, hc, rfl⟩ := h _ _ _ e
  cases r1.int; cases r2.int
  exact ⟨i, j, rfl, rfl, hc, k g0 _ (Ext.refl _) hS (.int _)⟩
theorem relB {g : Int → Int → Bool} {op : D → D → Option Bool} (h : ∀ x y z, op x y = some z → ∃ i j, x = .int i ∧ y = .int j ∧ z = g i j) : RelOp (rI0 fun i j => .bl (g i j)) (obl op) := fun m ca g0 S x y dx dy z Q hS r1 r2 e k => by
  unfold obl at e
  cases e2 : op dx dy with
  | none => rw [e2] at e; cases e
  | some w =>
    rw [e2] at e; cases e
    obtain ⟨i, j, rfl, rfl, rfl⟩ := h _ _ _ e2
    cases r1.int; cases r2.int
    exact ⟨i, j, rfl, rfl, k g0 _ (Ext.refl _) hS (.bl _)⟩
def subD : D → D → Option D
  | .int i, .int j => some (.int (i - j))
  | _, _ => none
def mulD : D → D → Option D
  | .int i, .int j => if (-(2 ^ 64) < i ∧ i < 2 ^ 64) ∨ (-(2 ^ 64) < j ∧ j < 2 ^ 64) then some (.int (i * j)) else none
  | .str a, .int n => if a.length ≤ 16 ∧ -1000000 ≤ n ∧ n ≤ 1000000 then some (.str (Txt.mul a n)) else none
  | _, _ => none
def divD : D → D → Option D
  | .int i, .int j => if 0 < j ∧ j < 1073741824 then some (.int (i / j)) else none
  | _, _ => none
def modD : D → D → Option D
  | .int i, .int j => if 0 < j then some (.int (i % j)) else none
  | _, _ => none
def powD : D → D → Option D
  | .int i, .int j => if 0 ≤ j ∧ j ≤ 1000000 ∧ i.natAbs < 2 ^ 64 then some (.int (i ^ j.toNat)) else none
  | _, _ => none
def addD : D → D → Option D
  | .int i, .int j => some (.int (i + j))
  | .str a, .str b => if a.length + b.length ≤ lim then some (.str (a ++ b)) else none
  | .lst xs, .lst ys => if xs.length + ys.length ≤ lim then some (.lst (xs ++ ys)) else none
  | .tup xs, .tup ys => if xs ≠ [] ∧ ys ≠ [] ∧ xs.length + ys.length ≤ lim then some (.tup (xs ++ ys)) else none
  | _, _ => none
def ltD : D → D → Option Bool
  | .int i, .int j => some (decide (i < j))
  | _, _ => none
def leD : D → D → Option Bool
  | .int i, .int j => some (decide (i ≤ j))
  | _, _ => none
def gtD : D → D → Option Bool
  | .int i, .int j => some (decide (j < i))
  | _, _ => none
def geD : D → D → Option Bool
  | .int i, .int j => some (decide (j ≤ i))
  | _, _ => none
theorem subD_ok {x y z : D} (h : subD x y = some z) : ∃ i j, x = .int i ∧ y = .int j ∧ z = .int (i - j) := by
  unfold subD at h; split at h
  · cases h; exact ⟨_, _, rfl, rfl, rfl⟩
  · cases h
theorem de_sub (ha : DB m X W ca a fa) (hb : DB m X W ca b fb) : DE m X W ca (.BinOp a .Sub b pos) (eBin subD fa fb) := de_bin op_sub (relI0 fun _ _ _ => subD_ok) ha hb
theorem op_txtMul {X : Cx} : OpR X (binaryOp .Mult) (fun x y H Q => ∃ a n, x = .str a ∧ y = .int n ∧ a.length ≤ 16 ∧ -1000000 ≤ n ∧ n ≤ 1000000 ∧ Q (.str (Txt.mul a n)) H) := fun pins s σ H x y v u Q I rx ry h => by
  obtain ⟨a, n, rfl, rfl, h1, h2, h3, q⟩ := h
  obtain ⟨t, rfl⟩ := rx
  obtain ⟨t2, rfl⟩ := ry
  exact PySem.W.KXi.mul rfl h1 (by omega) (by omega) fun t' k _ _ => ⟨.str _, H, I.tok k, ⟨t', rfl⟩, q⟩
theorem de_mul (ha : DB m X W ca a fa) (hb : DB m X W ca b fb) : DE m X W ca (.BinOp a .Mult b pos) (eBin mulD fa fb) := de_bin (op_mul.or op_txtMul) (fun m ca g0 S x y dx dy z Q hS r1 r2 e k => by
  unfold mulD at e
  split at e
  · split at e
    · rename_i c
      cases e
      cases r1.int; cases r2.int
      exact .inl ⟨_, _, rfl, rfl, c, k g0 _ (Ext.refl _) hS (.int _)⟩
    · cases e
  · split at e
    · rename_i c
      cases e
      cases r2.int
      cases r1.h hS with
      | str => exact .inr ⟨_, _, rfl, rfl, c.1, c.2.1, c.2.2, k g0 _ (Ext.refl _) hS (.str _)⟩
    · cases e
  · cases e) ha hb
theorem de_div (ha : DB m X W ca a fa) (hb : DB m X W ca b fb) : DE m X W ca (.BinOp a .FloorDiv b pos) (eBin divD fa fb) := de_bin op_fdiv (relI fun x y z h => by
  unfold divD at h; split at h
  · split at h
    · rename_i c; cases h; exact ⟨_, _, rfl, rfl, c, rfl⟩
    · cases h
  · cases h) ha hb
theorem de_mod (ha : DB m X W ca a fa) (hb : DB m X W ca b fb) : DE m X W ca (.BinOp a .Mod b pos) (eBin modD fa fb) := de_bin op_mod (relI fun x y z h => by
  unfold modD at h; split at h
  · split at h
    · rename_i c; cases h; exact ⟨_, _, rfl, rfl, c, rfl⟩
    · cases h
  · cases h) ha hb
theorem de_pow (ha : DB m X W ca a fa) (hb : DB m X W ca b fb) : DE m X W ca (.BinOp a .Pow b pos) (eBin powD fa fb) := de_bin op_pow (relI fun x y z h => by
  unfold powD at h; split at h
  · split at h
    · rename_i c; cases h; exact ⟨_, _, rfl, rfl, c, rfl⟩
    · cases h
  · cases h) ha hb
theorem rel_add {K : PySem.W.Frag} : RelOp (fun x y H Q => rI0 (fun i j => .int (i + j)) x y H Q ∨ (∃ i j, x = .str i ∧ y = .str j ∧ i.length + j.length ≤ sizeLine ∧ Q (.str (i ++ j)) H) ∨ rCat x y H Q ∨ rCatT K x y H Q) addD :=
  fun m ca g S x y dx dy z Q hS r1 r2 e k => by
    unfold addD at e
    split at e
    · cases e; cases r1.int; cases r2.int
      exact .inl ⟨_, _, rfl, rfl, k g _ (Ext.refl _) hS (.int _)⟩
    · split at e
      · rename_i c; cases e; cases r1.str; cases r2.str
        exact .inr (.inl ⟨_, _, rfl, rfl, lim_lt c, k g _ (Ext.refl _) hS (.str _)⟩)
      · cases e
    · split at e
      · rename_i c
        cases e
        obtain ⟨p, vs, rfl, h1, q1⟩ := r1.lst hS
        obtain ⟨p', ws, rfl, h2, q2⟩ := r2.lst hS
        refine .inr (.inr (.inl ⟨p, p', vs, ws, rfl, rfl, h1, h2, by rw [q1.length, q2.length]; exact lim_lt c, fun l hl => ?_⟩))
        exact k (g.fz l _) _ (ext_fz hS hl _) (sok_fz hS hl _) (rp_lst (hS.free hl) (q1.append q2))
      · cases e
    · split at e
      · rename_i c
        cases e
        obtain ⟨p, vs, rfl, h1, q1⟩ := r1.tup hS
        obtain ⟨p', ws, rfl, h2, q2⟩ := r2.tup hS
        have l1 := q1.length
        have l2 := q2.length
        have c1 : vs ≠ [] := fun z => c.1 (List.length_eq_zero_iff.mp (by rw [← l1, z]; rfl))
        have c2 : ws ≠ [] := fun z => c.2.1 (List.length_eq_zero_iff.mp (by rw [← l2, z]; rfl))
        refine .inr (.inr (.inr ⟨p, p', vs, ws, rfl, rfl, SqT.of h1, SqT.of h2, c1, by rw [l1, l2]; exact lim_lt c.2.2, fun z => absurd z c2, fun _ l hl => ?_⟩))
        exact k (g.fz l _) _ (ext_fz hS hl _) (sok_fz hS hl _) (rp_tup (hS.free hl) (q1.append q2))
      · cases e
    · cases e
theorem de_add (ha : DB m X W ca a fa) (hb : DB m X W ca b fb) : DE m X W ca (.BinOp a .Add b pos) (eBin addD fa fb) :=
  de_bin (op_add.or (op_add_str.or (op_cat.or op_catT))) rel_add ha hb
/-- xs + ys, a new list of nobody's -/
def oCat (a b : En → M D) : En → M (List D) := fun env => M.bind (a env) fun x => M.bind (b env) fun y => match x, y with
  | .lst xs, .lst ys => if xs.length + ys.length ≤ lim then M.ret (xs ++ ys) else M.bad
  | _, _ => M.bad
theorem do_cat (ha : DB m X W ca a fa) (hb : DB m X W ca b fb) : DO m X W ca (.BinOp a .Add b pos) (oCat fa fb) := by
  obtain ⟨ta, pa, ka⟩ := ha
  obtain ⟨tb, pb, kb⟩ := hb
  refine ⟨_, pe_op op_cat pa pb, fun H0 g S σ env hS hE Q h => ?_⟩
  refine ka H0 g S σ env hS hE _ (sat_mono (seqO h) (fun x S1 q g1 v e1 s1 r1 => ?_) fun _ _ q => q)
  refine kb H0 g1 S1 σ env s1 (hE.ext e1) _ (sat_mono (seqO (q g1 e1)) (fun y S2 q2 g2 u e2 s2 r2 => ?_) fun _ _ q => q)
  have q2 := q2 g2 e2
  have r1 := r1.ext s2 e2
  cases x with
  | lst xs =>
    cases y with
    | lst ys =>
      dsimp only at q2
      by_cases c : xs.length + ys.length ≤ lim
      · rw [if_pos c] at q2
        have q2 : okO m ca g2 Q (xs ++ ys) S2 := q2
        obtain ⟨p, vs, rfl, h1, q1⟩ := r1.lst s2
        obtain ⟨p', ws, rfl, h2, q3⟩ := r2.lst s2
        refine ⟨p, p', vs, ws, rfl, rfl, h1, h2, by rw [q1.length, q3.length]; exact lim_lt c, fun l hl => ?_⟩
        exact q2 (g2.nw l _) l _ (ext_nw s2 hl _) (sok_nw s2 hl _) hl upd_same (s2.free hl) (s2.nop hl) (q1.append q3)
      · rw [if_neg c] at q2; exact q2.elim
    | _ => exact q2.elim
  | _ => exact q2.elim
theorem de_lt (ha : DB m X W ca a fa) (hb : DB m X W ca b fb) : DE m X W ca (.Compare a [.Lt] [b] pos) (eBin (obl ltD) fa fb) := de_cmp op_lt (relB fun x y z h => by
  unfold ltD at h; split at h
  · cases h; exact ⟨_, _, rfl, rfl, rfl⟩
  · cases h) ha hb (nomark _)
theorem dt_lt (ha : DB m X W ca a fa) (hb : DB m X W ca b fb) : DT m X W ca (.Compare a [.Lt] [b] pos) (tBin ltD fa fb) := dt_cmp op_lt (relB fun x y z h => by
  unfold ltD at h; split at h
  · cases h; exact ⟨_, _, rfl, rfl, rfl⟩
  · cases h) ha hb (nomark _)
theorem de_le (ha : DB m X W ca a fa) (hb : DB m X W ca b fb) : DE m X W ca (.Compare a [.LtE] [b] pos) (eBin (obl leD) fa fb) := de_cmp op_le (relB fun x y z h => by
  unfold leD at h; split at h
  · cases h; exact ⟨_, _, rfl, rfl, rfl⟩
  · cases h) ha hb (nomark _)
theorem dt_le (ha : DB m X W ca a fa) (hb : DB m X W ca b fb) : DT m X W ca (.Compare a [.LtE] [b] pos) (tBin leD fa fb) := dt_cmp op_le (relB fun x y z h => by
  unfold leD at h; split at h
  · cases h; exact ⟨_, _, rfl, rfl, rfl⟩
  · cases h) ha hb (nomark _)
theorem de_gt (ha : DB m X W ca a fa) (hb : DB m X W ca b fb) : DE m X W ca (.Compare a [.Gt] [b] pos) (eBin (obl gtD) fa fb) := de_cmp op_gt (relB fun x y z h => by
  unfold gtD at h; split at h
  · cases h; exact ⟨_, _, rfl, rfl, rfl⟩
  · cases h) ha hb (nomark _)
theorem dt_gt (ha : DB m X W ca a fa) (hb : DB m X W ca b fb) : DT m X W ca (.Compare a [.Gt] [b] pos) (tBin gtD fa fb) := dt_cmp op_gt (relB fun x y z h => by
  unfold gtD at h; split at h
  · cases h; exact ⟨_, _, rfl, rfl, rfl⟩
  · cases h) ha hb (nomark _)
theorem de_ge (ha : DB m X W ca a fa) (hb : DB m X W ca b fb) : DE m X W ca (.Compare a [.GtE] [b] pos) (eBin (obl geD) fa fb) := de_cmp op_ge (relB fun x y z h => by
  unfold geD at h; split at h
  · cases h; exact ⟨_, _, rfl, rfl, rfl⟩
  · cases h) ha hb (nomark _)
theorem dt_ge (ha : DB m X W ca a fa) (hb : DB m X W ca b fb) : DT m X W ca (.Compare a [.GtE] [b] pos) (tBin geD fa fb) := dt_cmp op_ge (relB fun x y z h => by
  unfold geD at h; split at h
  · cases h; exact ⟨_, _, rfl, rfl, rfl⟩
  · cases h) ha hb (nomark _)

/-! ### is None -/
def isN : D → Bool
  | .non => true
  | _ => false
theorem isN_v {F : Hp} {p : Pi} {x : V} {d : D} (r : Rp F p x d) : decide (x = .non) = isN d := by
  cases r <;> first | rfl | (exact decide_eq_false (fun z => nomatch z))
def isD : D → D → Option Bool
  | x, .non => some (isN x)
  | .bl a, .bl b => some (decide (a = b))
  | _, _ => none
def isnD : D → D → Option Bool
  | x, .non => some (!isN x)
  | .bl a, .bl b => some (!decide (a = b))
  | _, _ => none
abbrev rIsA : R2 := fun x y H Q => (y = .non ∧ Q (.bl (decide (x = .non))) H) ∨ ∃ a b, x = .bl a ∧ y = .bl b ∧ Q (.bl (decide (a = b))) H
abbrev rIsnA : R2 := fun x y H Q => (y = .non ∧ Q (.bl (!decide (x = .non))) H) ∨ ∃ a b, x = .bl a ∧ y = .bl b ∧ Q (.bl (!decide (a = b))) H
theorem isD_non (x : D) : isD x .non = some (isN x) := by cases x <;> rfl
theorem isnD_non (x : D) : isnD x .non = some (!isN x) := by cases x <;> rfl
theorem rel_is : RelOp rIsA (obl isD) := fun m ca g S x y dx dy z Q hS r1 r2 e k => by
  cases dy with
  | non =>
    have e : (isD dx .non).map D.bl = some z := e
    rw [isD_non] at e
    cases r2.non; cases e
    exact .inl ⟨rfl, by rw [isN_v (r1.h hS)]; exact k g _ (Ext.refl _) hS (.bl _)⟩
  | bl b =>
    cases dx with
    | bl a =>
      cases e
      cases r1.h hS with
      | bl => cases r2.h hS with
        | bl => exact .inr ⟨a, b, rfl, rfl, k g _ (Ext.refl _) hS (.bl _)⟩
    | _ => cases e
  | _ => cases dx <;> cases e
theorem rel_isn : RelOp rIsnA (obl isnD) := fun m ca g S x y dx dy z Q hS r1 r2 e k => by
  cases dy with
  | non =>
    have e : (isnD dx .non).map D.bl = some z := e
    rw [isnD_non] at e
    cases r2.non; cases e
    exact .inl ⟨rfl, by rw [isN_v (r1.h hS)]; exact k g _ (Ext.refl _) hS (.bl _)⟩
  | bl b =>
    cases dx with
    | bl a =>
      cases e
      cases r1.h hS with
      | bl => cases r2.h hS with
        | bl => exact .inr ⟨a, b, rfl, rfl, k g _ (Ext.refl _) hS (.bl _)⟩
    | _ => cases e
  | _ => cases dx <;> cases e
theorem op_isA {X : Cx} : OpR X (compareOp .Is) rIsA := op_isN.or op_is_bl
theorem op_isnA {X : Cx} : OpR X (compareOp .IsNot) rIsnA := op_notN.or op_isnot_bl
theorem de_is (ha : DB m X W ca a fa) (hb : DB m X W ca b fb) : DE m X W ca (.Compare a [.Is] [b] pos) (eBin (obl isD) fa fb) := de_cmp op_isA rel_is ha hb (nomark _)
theorem dt_is (ha : DB m X W ca a fa) (hb : DB m X W ca b fb) : DT m X W ca (.Compare a [.Is] [b] pos) (tBin isD fa fb) := dt_cmp op_isA rel_is ha hb (nomark _)
theorem de_isn (ha : DB m X W ca a fa) (hb : DB m X W ca b fb) : DE m X W ca (.Compare a [.IsNot] [b] pos) (eBin (obl isnD) fa fb) := de_cmp op_isnA rel_isn ha hb (nomark _)
theorem dt_isn (ha : DB m X W ca a fa) (hb : DB m X W ca b fb) : DT m X W ca (.Compare a [.IsNot] [b] pos) (tBin isnD fa fb) := dt_cmp op_isnA rel_isn ha hb (nomark _)
end

/-! ### == -/
mutual
def toPy : D → PyData
  | .non => .none
  | .bl b => .bool b
  | .int i => .int i
  | .str x => .str x
  | .lst xs => .list (toPyA xs)
  | .tup xs => .tuple (toPyA xs)
  | .dct _ => .dict []
  | .scr _ => .dict []
  | .obj _ => .dict []
def toPyA : List D → List PyData
  | [] => []
  | d :: ds => toPy d :: toPyA ds
end
def scalD : D → D → Bool
  | .non, .non => true | .non, .int _ => true | .int _, .non => true | .non, .bl _ => true | .bl _, .non => true | .non, .str _ => true | .str _, .non => true
  | .int _, .int _ => true | .bl _, .bl _ => true | .str _, .str _ => true
  | .int _, .str _ => true | .str _, .int _ => true | .bl _, .str _ => true | .str _, .bl _ => true
  | _, _ => false
def shpD (d : D) : Bool := SeqAt.shaped (toPy d)
def eqD (x y : D) : Option Bool := if scalD x y = true ∨ (shpD x = true ∧ shpD y = true) then some (PyData.eqv (toPy x) (toPy y)) else none
def neD (x y : D) : Option Bool := (eqD x y).map (!·)
section
variable {F H : Hp} {p : Pi} {K : PySem.W.Frag}
theorem ints_dp : ∀ (ns : List Int), DpAll K H (ns.map V.int) (ns.map PyData.int)
  | [] => .nil
  | n :: ns => .cons (.int n) (ints_dp ns)
mutual
theorem dp_of (s : Same F H) : ∀ {v : V} {d : D}, Rp F p v d → (toPy d).canLay0 = true → Dp K H v (toPy d)
  | _, _, .non, _ => .non
  | _, _, .bl b, _ => .bl b
  | _, _, .int b, _ => .int b
  | _, _, .str b, _ => .str b
  | _, _, .lst h t, c => .lst (SqL.of (s _ _ h)) (dpA_of s t (by simpa [toPy, PyData.canLay0] using c))
  | _, _, .tup h t, c => .tup (SqT.of (s _ _ h)) (dpA_of s t (by simpa [toPy, PyData.canLay0] using c))
  | _, _, .dct h t, c => by simp [toPy, PyData.canLay0] at c
  | _, _, .scr h, c => by simp [toPy, PyData.canLay0] at c
  | _, _, .obj h, c => by simp [toPy, PyData.canLay0] at c
theorem dpA_of (s : Same F H) : ∀ {v : List V} {d : List D}, RpA F p v d → PyData.canLayAll0 (toPyA d) = true → DpAll K H v (toPyA d)
  | _, _, .nil, _ => .nil
  | _, _, .cons h t, c => by
    simp only [toPyA, PyData.canLayAll0, Bool.and_eq_true] at c
    exact .cons (dp_of s h c.1) (dpA_of s t c.2)
end
end
theorem scal_eq {F : Hp} {p : Pi} {x y : V} {dx dy : D} (r1 : Rp F p x dx) (r2 : Rp F p y dy) (h : scalD dx dy = true) : scal x y = true ∧ decide (x = y) = PyData.eqv (toPy dx) (toPy dy) := by
  cases r1 <;> cases r2 <;> first
    | (simp [scalD] at h; done)
    | exact ⟨rfl, by simp [toPy, PyData.eqv, Bool.beq_eq_decide_eq]⟩
    | exact ⟨rfl, by simp [toPy, PyData.eqv]; rw [Bool.eq_iff_iff]; simp⟩
theorem rel_eq {K : PySem.W.Frag} : RelOp (fun x y H Q => rEq x y H Q ∨ rEqD K x y H Q) (obl eqD) := fun m ca g S x y dx dy z Q hS r1 r2 e k => by
  unfold obl eqD at e
  split at e
  · rename_i c
    cases e
    have k := k g _ (Ext.refl _) hS (.bl _)
    rcases c with c | ⟨c1, c2⟩
    · obtain ⟨q1, q2⟩ := scal_eq (r1.h hS) (r2.h hS) c
      exact .inl ⟨q1, by rw [q2]; exact k⟩
    · exact .inr ⟨_, _, dp_of (Same.refl _) (r1.h hS) (SeqAt.canLay_of_shaped c1), dp_of (Same.refl _) (r2.h hS) (SeqAt.canLay_of_shaped c2), c1, c2, k⟩
  · cases e
theorem rel_ne {K : PySem.W.Frag} : RelOp (fun x y H Q => rNe x y H Q ∨ rNeD K x y H Q) (obl neD) := fun m ca g S x y dx dy z Q hS r1 r2 e k => by
  unfold obl neD eqD at e
  split at e
  · rename_i c
    cases e
    have k := k g _ (Ext.refl _) hS (.bl _)
    rcases c with c | ⟨c1, c2⟩
    · obtain ⟨q1, q2⟩ := scal_eq (r1.h hS) (r2.h hS) c
      exact .inl ⟨q1, by rw [q2]; exact k⟩
    · exact .inr ⟨_, _, dp_of (Same.refl _) (r1.h hS) (SeqAt.canLay_of_shaped c1), dp_of (Same.refl _) (r2.h hS) (SeqAt.canLay_of_shaped c2), c1, c2, k⟩
  · cases e
section
variable {m : Bool} {X : Cx} {W : WX} {ca : Ct} {a b e : Expr} {fa fb : En → M D} {pos : Pos} {k : Nat}
theorem de_eq (hu : X.A.units + 64 < cLine) (ha : DB m X W ca a fa) (hb : DB m X W ca b fb) : DE m X W ca (.Compare a [.Eq] [b] pos) (eBin (obl eqD) fa fb) := de_cmp (op_eq.or (op_eqD hu)) rel_eq ha hb (nomark _)
theorem dt_eq (hu : X.A.units + 64 < cLine) (ha : DB m X W ca a fa) (hb : DB m X W ca b fb) : DT m X W ca (.Compare a [.Eq] [b] pos) (tBin eqD fa fb) := dt_cmp (op_eq.or (op_eqD hu)) rel_eq ha hb (nomark _)
theorem de_ne (hu : X.A.units + 64 < cLine) (ha : DB m X W ca a fa) (hb : DB m X W ca b fb) : DE m X W ca (.Compare a [.NotEq] [b] pos) (eBin (obl neD) fa fb) := de_cmp (op_ne.or (op_neD hu)) rel_ne ha hb (nomark _)
theorem dt_ne (hu : X.A.units + 64 < cLine) (ha : DB m X W ca a fa) (hb : DB m X W ca b fb) : DT m X W ca (.Compare a [.NotEq] [b] pos) (tBin neD fa fb) := dt_cmp (op_ne.or (op_neD hu)) rel_ne ha hb (nomark _)
end

/-! ### in -/
/-- a dict's keys, its look -/
def keyD : D → Option Key
  | .int i => some (.inl i)
  | .str s => some (.inr s)
  | _ => none
def getK (kvs : List (Key × D)) (k : Key) : Option D := (kvs.find? fun kv => decide (kv.1 = k)).map (·.2)
def dgetD : D → D → Option D
  | .dct kvs, y => (keyD y).bind (getK kvs)
  | _, _ => none
theorem getK_v {F : Hp} {p : Pi} {vs : List (Key × V)} {ds : List (Key × D)} (r : RpK F p vs ds) (k : Key) :
    (getK ds k = none ∧ valV vs k = none) ∨ ∃ d v, getK ds k = some d ∧ valV vs k = some v ∧ Rp F p v d := by
  induction ds generalizing vs with
  | nil => cases r; exact .inl ⟨rfl, rfl⟩
  | cons x ds ih =>
    cases r with
    | @cons k' v d vs _ h t =>
      by_cases e : k' = k
      · exact .inr ⟨d, v, by simp [getK, List.find?_cons, e], by simp [valV, List.find?_cons, e], h⟩
      · have e1 : getK ((k', d) :: ds) k = getK ds k := by simp [getK, List.find?_cons, e]
        have e2 : valV ((k', v) :: vs) k = valV vs k := by simp [valV, List.find?_cons, e]
        rw [e1, e2]
        exact ih t
theorem keyD_v {F : Hp} {p : Pi} {y : V} {d : D} {k : Key} (r : Rp F p y d) (h : keyD d = some k) : y = kV k := by
  cases r <;> cases h <;> rfl
theorem Rb.dct {m : Bool} {ca : Ct} {S : Store} {g : G} (hS : SOk ca g S) {x : V} {ds : List (Key × D)} (r : Rb m g x (.dct ds)) : ∃ a vs, x = .ref a ∧ g.H a = some (.dK vs) ∧ RpK g.F g.p vs ds := by
  rcases r with r | ⟨_, _, _, _, h, _⟩ | ⟨q, vs, xs, h1, h2, h3, h4, h6⟩
  · cases r with
    | dct h t => exact ⟨_, _, rfl, hS.same _ _ h, t⟩
  · cases h
  · cases h2; exact ⟨q, vs, h1, h3, h6⟩
def flatD : D → Bool
  | .non => true | .bl _ => true | .int _ => true | .str _ => true
  | _ => false
def eqF : D → D → Bool
  | .non, .non => true
  | .bl a, .bl b => a == b
  | .bl a, .int b => (if a then 1 else 0) == b
  | .int a, .bl b => a == (if b then 1 else 0)
  | .int a, .int b => a == b
  | .str a, .str b => a == b
  | _, _ => false
def inF (x : D) (xs : List D) : Bool := xs.any fun y => eqF y x
def inStr (i j : Str) : Bool := !(Builtin.Str.occurrences j i 0 j.length 1).isEmpty
def inK (x : D) (kvs : List (Key × D)) : Option Bool := match keyD x with
  | some k => some (getK kvs k).isSome
  | none => if isN x = true then some false else none
def inD : D → D → Option Bool
  | .str i, .str j => some (inStr i j)
  | x, .lst ys => if flatD x = true ∧ ys.all flatD = true then some (inF x ys) else if shpD x = true ∧ shpD (.lst ys) = true then some ((toPyA ys).any fun z => PyData.eqv z (toPy x)) else none
  | x, .tup ys => if flatD x = true ∧ ys.all flatD = true then some (inF x ys) else none
  | x, .dct kvs => inK x kvs
  | _, _ => none
def ninD (x y : D) : Option Bool := (inD x y).map (!·)
section
variable {F : Hp} {p : Pi}
theorem flat_v {x : V} {d : D} (r : Rp F p x d) (h : flatD d = true) : flatV x = true := by
  cases r <;> first | rfl | (simp [flatD] at h)
theorem flat_vA {xs : List V} {ds : List D} (r : RpA F p xs ds) (h : ds.all flatD = true) : xs.all flatV = true := by
  induction ds generalizing xs with
  | nil => cases r; rfl
  | cons d ds ih =>
    cases r with
    | cons r t =>
      simp only [List.all_cons, Bool.and_eq_true] at h ⊢
      exact ⟨flat_v r h.1, ih t h.2⟩
theorem eqF_v {x y : V} {d e : D} (r : Rp F p x d) (q : Rp F p y e) : flatD d = true → eqV x y = eqF d e := fun h => by
  cases r <;> first | (cases q <;> rfl) | (simp [flatD] at h)
theorem inF_v {x : V} {d : D} {xs : List V} {ds : List D} (r : Rp F p x d) (t : RpA F p xs ds) (h : ds.all flatD = true) : inV x xs = inF d ds := by
  unfold inV inF
  induction ds generalizing xs with
  | nil => cases t; rfl
  | cons e ds ih =>
    cases t with
    | cons q t =>
      simp only [List.all_cons, Bool.and_eq_true] at h
      simp only [List.any_cons, ih t h.2, eqF_v q r h.1]
end
def rInDct (f : Bool → Bool) : R2 := fun x y H Q => ∃ a, y = .ref a ∧ ((∃ o, DGet H a x o ∧ Q (.bl (f o.isSome)) H) ∨ (x = .non ∧ (∃ kvs, Rd H a (.dK kvs)) ∧ Q (.bl (f false)) H))
theorem op_in_dict {X : Cx} (hu : X.A.units + 65 < cLine) : OpR X (compareOp .In) (rInDct id) := by
  intro pins s σ H x y v u Q I rx ry h
  obtain ⟨a, rfl, h⟩ := h
  obtain rfl : u = Value.ref a := ry
  rcases h with ⟨o, g, q⟩ | ⟨rfl, ⟨kvs, g⟩, q⟩
  · exact d_in (by omega) I g rx fun s3 I3 => ⟨.bl o.isSome, H, I3, rfl, q⟩
  · obtain rfl : v = Value.none := rx
    exact d_inNone I g fun s3 I3 => ⟨.bl false, H, I3, rfl, q⟩
theorem op_notIn_dict {X : Cx} (hu : X.A.units + 65 < cLine) : OpR X (compareOp .NotIn) (rInDct (!·)) := by
  intro pins s σ H x y v u Q I rx ry h
  obtain ⟨a, rfl, h⟩ := h
  obtain rfl : u = Value.ref a := ry
  rcases h with ⟨o, g, q⟩ | ⟨rfl, ⟨kvs, g⟩, q⟩
  · exact d_notIn (by omega) I g rx fun s3 I3 => ⟨.bl (!o.isSome), H, I3, rfl, q⟩
  · obtain rfl : v = Value.none := rx
    exact d_notInNone I g fun s3 I3 => ⟨.bl true, H, I3, rfl, q⟩
theorem isN_is {F : Hp} {p : Pi} {y : V} {d : D} (r : Rp F p y d) (h : isN d = true) : y = .non := by
  cases r <;> first | rfl | (simp [isN] at h)
theorem rel_dct {m : Bool} {ca : Ct} {g : G} {S : Store} {v w : V} {dx : D} {kvs : List (Key × D)} {b : Bool} {f : Bool → Bool} {Q : VK} (hS : SOk ca g S) (r1 : Rb m g v dx) (r2 : Rb m g w (.dct kvs)) (e : inK dx kvs = some b) (k : Q (.bl (f b)) g.H) : rInDct f v w g.H Q := by
  obtain ⟨a, vs, rfl, h1, t⟩ := r2.dct hS
  refine ⟨a, rfl, ?_⟩
  unfold inK at e
  cases e1 : keyD dx with
  | some q =>
    rw [e1] at e
    cases e
    left
    rcases getK_v t q with ⟨q1, q2⟩ | ⟨d, v, q1, q2, q3⟩
    · exact ⟨none, by rw [keyD_v (r1.h hS) e1, ← q2]; exact DGet.k h1, by rw [q1] at k; exact k⟩
    · exact ⟨some v, by rw [keyD_v (r1.h hS) e1, ← q2]; exact DGet.k h1, by rw [q1] at k; exact k⟩
  | none =>
    rw [e1] at e
    dsimp only at e
    split at e
    · rename_i c
      cases e
      exact .inr ⟨isN_is (r1.h hS) c, ⟨vs, .inl h1⟩, k⟩
    · cases e
theorem rel_in {K : PySem.W.Frag} : RelOp (fun x y H Q => (∃ i j, x = .str i ∧ y = .str j ∧ Q (.bl (!(Builtin.Str.occurrences j i 0 j.length 1).isEmpty)) H) ∨ ((rIn K false x y H Q ∨ rInD K x y H Q) ∨ rInDct id x y H Q)) (obl inD) := fun m ca g S x y dx dy z Q hS r1 r2 e k => by
  unfold obl inD at e
  split at e
  · cases r1.str; cases r2.str; cases e
    exact .inl ⟨_, _, rfl, rfl, k g _ (Ext.refl _) hS (.bl _)⟩
  · split at e
    · rename_i c
      cases e
      obtain ⟨q, vs, rfl, h1, t⟩ := r2.lst hS
      exact .inr (.inl (.inl ⟨q, vs, rfl, .inl (SqL.of h1), flat_v (r1.h hS) c.1, flat_vA t c.2, by rw [inF_v (r1.h hS) (RpA.mono hS.same (PiLe.refl _) t) c.2]; exact k g _ (Ext.refl _) hS (.bl _)⟩))
    · split at e
      · rename_i c
        cases e
        exact .inr (.inl (.inr ⟨_, _, dp_of (Same.refl _) (r1.h hS) (SeqAt.canLay_of_shaped c.1), dp_of (Same.refl _) (r2.h hS) (SeqAt.canLay_of_shaped c.2), c.1, c.2, k g _ (Ext.refl _) hS (.bl _)⟩))
      · cases e
  · split at e
    · rename_i c
      cases e
      obtain ⟨q, vs, rfl, h1, t⟩ := r2.tup hS
      exact .inr (.inl (.inl ⟨q, vs, rfl, .inr (SqT.of h1), flat_v (r1.h hS) c.1, flat_vA t c.2, by rw [inF_v (r1.h hS) (RpA.mono hS.same (PiLe.refl _) t) c.2]; exact k g _ (Ext.refl _) hS (.bl _)⟩))
    · cases e
  · rename_i kvs
    generalize e1 : inK _ kvs = ob at e
    cases ob with
    | none => cases e
    | some b =>
      cases e
      exact .inr (.inr (rel_dct hS r1 r2 e1 (k g _ (Ext.refl _) hS (.bl _))))
  · cases e
theorem rel_nin {K : PySem.W.Frag} : RelOp (fun x y H Q => (∃ i j, x = .str i ∧ y = .str j ∧ Q (.bl (!(!(Builtin.Str.occurrences j i 0 j.length 1).isEmpty))) H) ∨ ((rIn K true x y H Q ∨ rNotInD K x y H Q) ∨ rInDct (!·) x y H Q)) (obl ninD) := fun m ca g S x y dx dy z Q hS r1 r2 e k => by
  unfold obl ninD inD at e
  split at e
  · cases r1.str; cases r2.str; cases e
    exact .inl ⟨_, _, rfl, rfl, k g _ (Ext.refl _) hS (.bl _)⟩
  · split at e
    · rename_i c
      cases e
      obtain ⟨q, vs, rfl, h1, t⟩ := r2.lst hS
      refine .inr (.inl (.inl ⟨q, vs, rfl, .inl (SqL.of h1), flat_v (r1.h hS) c.1, flat_vA t c.2, ?_⟩))
      show Q (.bl (!inV x vs)) g.H
      rw [inF_v (r1.h hS) (RpA.mono hS.same (PiLe.refl _) t) c.2]; exact k g _ (Ext.refl _) hS (.bl _)
    · split at e
      · rename_i c
        cases e
        exact .inr (.inl (.inr ⟨_, _, dp_of (Same.refl _) (r1.h hS) (SeqAt.canLay_of_shaped c.1), dp_of (Same.refl _) (r2.h hS) (SeqAt.canLay_of_shaped c.2), c.1, c.2, k g _ (Ext.refl _) hS (.bl _)⟩))
      · cases e
  · split at e
    · rename_i c
      cases e
      obtain ⟨q, vs, rfl, h1, t⟩ := r2.tup hS
      refine .inr (.inl (.inl ⟨q, vs, rfl, .inr (SqT.of h1), flat_v (r1.h hS) c.1, flat_vA t c.2, ?_⟩))
      show Q (.bl (!inV x vs)) g.H
      rw [inF_v (r1.h hS) (RpA.mono hS.same (PiLe.refl _) t) c.2]; exact k g _ (Ext.refl _) hS (.bl _)
    · cases e
  · rename_i kvs
    generalize e1 : inK _ kvs = ob at e
    cases ob with
    | none => cases e
    | some b =>
      cases e
      exact .inr (.inr (rel_dct hS r1 r2 e1 (k g _ (Ext.refl _) hS (.bl _))))
  · cases e
theorem rm_u65 {k : Nat} {A : Around} (r : L2.Room k A) : A.units + 65 < cLine := by have := r.un; omega
section
variable {m : Bool} {X : Cx} {W : WX} {ca : Ct} {a b e : Expr} {fa fb : En → M D} {pos : Pos} {k : Nat}
theorem de_in (hu : X.A.units + 65 < cLine) (ha : DB m X W ca a fa) (hb : DB m X W ca b fb) (hm : behindInMarks .In b = false := by rfl) : DE m X W ca (.Compare a [.In] [b] pos) (eBin (obl inD) fa fb) := de_cmp (op_in_str.or ((op_in_seq.or (op_inD hu)).or (op_in_dict hu))) rel_in ha hb hm
theorem dt_in (hu : X.A.units + 65 < cLine) (ha : DB m X W ca a fa) (hb : DB m X W ca b fb) (hm : behindInMarks .In b = false := by rfl) : DT m X W ca (.Compare a [.In] [b] pos) (tBin inD fa fb) := dt_cmp (op_in_str.or ((op_in_seq.or (op_inD hu)).or (op_in_dict hu))) rel_in ha hb hm
theorem de_nin (hu : X.A.units + 65 < cLine) (ha : DB m X W ca a fa) (hb : DB m X W ca b fb) (hm : behindInMarks .NotIn b = false := by rfl) : DE m X W ca (.Compare a [.NotIn] [b] pos) (eBin (obl ninD) fa fb) := de_cmp (op_notIn_str.or ((op_notIn_seq.or (op_notInD hu)).or (op_notIn_dict hu))) rel_nin ha hb hm
theorem dt_nin (hu : X.A.units + 65 < cLine) (ha : DB m X W ca a fa) (hb : DB m X W ca b fb) (hm : behindInMarks .NotIn b = false := by rfl) : DT m X W ca (.Compare a [.NotIn] [b] pos) (tBin ninD fa fb) := dt_cmp (op_notIn_str.or ((op_notIn_seq.or (op_notInD hu)).or (op_notIn_dict hu))) rel_nin ha hb hm
end
end Dn

namespace Dn
open PySem L2

section
variable {m : Bool} {X : Cx} {W : WX} {ca : Ct} {a b e : Expr} {fa fb : En → M D} {ta tb : En → M Bool} {pos : Pos} {rest : List Expr}
/-! ### and, or, not -/
def tAndD (a b : En → M Bool) : En → M Bool := fun env => M.bind (a env) fun x => if x = true then b env else M.ret false
def tOrD (a b : En → M Bool) : En → M Bool := fun env => M.bind (a env) fun x => if x = true then M.ret true else b env
def tNotD (a : En → M Bool) : En → M Bool := fun env => M.bind (a env) fun x => M.ret (!x)
theorem dw_and1 (ha : DT m X W ca a ta) : DW m X W ca (.BoolOp .And [a] pos) ta := let ⟨_, p, k⟩ := ha; ⟨_, pw_and1 p, k⟩
theorem dw_or1 (ha : DT m X W ca a ta) : DW m X W ca (.BoolOp .Or [a] pos) ta := let ⟨_, p, k⟩ := ha; ⟨_, pw_or1 p, k⟩
theorem dw_and (ha : DT m X W ca a ta) (hb : DW m X W ca (.BoolOp .And (b :: rest) pos) tb) : DW m X W ca (.BoolOp .And (a :: b :: rest) pos) (tAndD ta tb) := by
  obtain ⟨t1, p1, k1⟩ := ha
  obtain ⟨t2, p2, k2⟩ := hb
  refine ⟨_, pw_and p1 p2, fun H0 g S σ env hS hE Q h => k1 H0 g S σ env hS hE _ (sat_mono (seqT h) (fun x S1 q g1 e1 s1 => ?_) fun _ _ q => q)⟩
  have q := q g1 e1
  cases x with
  | true => exact k2 H0 g1 S1 σ env s1 (hE.ext e1) Q q
  | false => exact (show okT m ca g1 Q false S1 from q) g1 (Ext.refl _) s1
theorem dw_or (ha : DT m X W ca a ta) (hb : DW m X W ca (.BoolOp .Or (b :: rest) pos) tb) : DW m X W ca (.BoolOp .Or (a :: b :: rest) pos) (tOrD ta tb) := by
  obtain ⟨t1, p1, k1⟩ := ha
  obtain ⟨t2, p2, k2⟩ := hb
  refine ⟨_, pw_or p1 p2, fun H0 g S σ env hS hE Q h => k1 H0 g S σ env hS hE _ (sat_mono (seqT h) (fun x S1 q g1 e1 s1 => ?_) fun _ _ q => q)⟩
  have q := q g1 e1
  cases x with
  | false => exact k2 H0 g1 S1 σ env s1 (hE.ext e1) Q q
  | true => exact (show okT m ca g1 Q true S1 from q) g1 (Ext.refl _) s1
theorem DW.t (h : DW m X W ca e ta) : DT m X W ca e ta := let ⟨_, p, k⟩ := h; ⟨_, p.pt, k⟩
theorem dt_not (ha : DT m X W ca a ta) : DT m X W ca (.UnaryOp .Not a pos) (tNotD ta) := by
  obtain ⟨t1, p1, k1⟩ := ha
  refine ⟨_, pt_not p1, fun H0 g S σ env hS hE Q h => k1 H0 g S σ env hS hE _ (sat_mono (seqT h) (fun x S1 q g1 e1 s1 => ?_) fun _ _ q => q)⟩
  exact (show okT m ca g1 Q (!x) S1 from q g1 e1) g1 (Ext.refl _) s1
/-- as values -/
def eAndD (a b : En → M D) : En → M D := fun env => M.bind (a env) fun x => match x with
  | .bl k => if k = true then b env else M.ret (.bl false)
  | _ => M.bad
def eOrD (a b : En → M D) : En → M D := fun env => M.bind (a env) fun x => match x with
  | .bl k => if k = true then M.ret (.bl true) else b env
  | _ => M.bad
def eNotD (a : En → M D) : En → M D := fun env => M.bind (a env) fun x => match x with
  | .bl k => M.ret (.bl (!k))
  | _ => M.bad
theorem de_one {op} (h : DE m X W ca a fa) : DE m X W ca (.BoolOp op [a] pos) fa := let ⟨_, p, k⟩ := h; ⟨_, pe_one p, k⟩
theorem de_and (ha : DE m X W ca a fa) (hb : DE m X W ca (.BoolOp .And (b :: rest) pos) fb) : DE m X W ca (.BoolOp .And (a :: b :: rest) pos) (eAndD fa fb) := by
  obtain ⟨t1, p1, k1⟩ := ha
  obtain ⟨t2, p2, k2⟩ := hb
  refine ⟨_, pe_and p1 p2, fun H0 g S σ env hS hE Q h => k1 H0 g S σ env hS hE _ (sat_mono (seqE h) (fun x S1 q g1 v e1 s1 r1 => ?_) fun _ _ q => q)⟩
  have q := q g1 e1
  cases x with
  | bl k =>
    cases r1
    refine ⟨k, rfl, ?_⟩
    cases k with
    | true => exact k2 H0 g1 S1 σ env s1 (hE.ext e1) Q q
    | false => exact (show okE m ca g1 Q (.bl false) S1 from q) g1 _ (Ext.refl _) s1 (.bl _)
  | _ => exact q.elim
theorem de_or (ha : DE m X W ca a fa) (hb : DE m X W ca (.BoolOp .Or (b :: rest) pos) fb) : DE m X W ca (.BoolOp .Or (a :: b :: rest) pos) (eOrD fa fb) := by
  obtain ⟨t1, p1, k1⟩ := ha
  obtain ⟨t2, p2, k2⟩ := hb
  refine ⟨_, pe_or p1 p2, fun H0 g S σ env hS hE Q h => k1 H0 g S σ env hS hE _ (sat_mono (seqE h) (fun x S1 q g1 v e1 s1 r1 => ?_) fun _ _ q => q)⟩
  have q := q g1 e1
  cases x with
  | bl k =>
    cases r1
    refine ⟨k, rfl, ?_⟩
    cases k with
    | false => exact k2 H0 g1 S1 σ env s1 (hE.ext e1) Q q
    | true => exact (show okE m ca g1 Q (.bl true) S1 from q) g1 _ (Ext.refl _) s1 (.bl _)
  | _ => exact q.elim
theorem de_not (ha : DE m X W ca a fa) : DE m X W ca (.UnaryOp .Not a pos) (eNotD fa) := by
  obtain ⟨t1, p1, k1⟩ := ha
  refine ⟨_, pe_not p1, fun H0 g S σ env hS hE Q h => k1 H0 g S σ env hS hE _ (sat_mono (seqE h) (fun x S1 q g1 v e1 s1 r1 => ?_) fun _ _ q => q)⟩
  have q := q g1 e1
  cases x with
  | bl k =>
    cases r1
    exact ⟨k, rfl, (show okE m ca g1 Q (.bl (!k)) S1 from q) g1 _ (Ext.refl _) s1 (.bl _)⟩
  | _ => exact q.elim
/-- -n -/
def eNegD (a : En → M D) : En → M D := fun env => M.bind (a env) fun x => match x with
  | .int k => M.ret (.int (-k))
  | _ => M.bad
theorem de_neg (ha : DE m X W ca a fa) : DE m X W ca (.UnaryOp .USub a pos) (eNegD fa) := by
  obtain ⟨t1, p1, k1⟩ := ha
  refine ⟨_, pe_un un_neg p1, fun H0 g S σ env hS hE Q h => k1 H0 g S σ env hS hE _ (sat_mono (seqE h) (fun x S1 q g1 v e1 s1 r1 => ?_) fun _ _ q => q)⟩
  have q := q g1 e1
  cases x with
  | int k =>
    cases r1
    exact ⟨k, rfl, (show okE m ca g1 Q (.int (-k)) S1 from q) g1 _ (Ext.refl _) s1 (.int _)⟩
  | _ => exact q.elim
/-- a value as a test -/
def truD : D → Option Bool
  | .non => some false
  | .bl b => some b
  | .int i => some (i != 0)
  | .str y => if y.length ≤ lim then some ((y.length : Int) != 0) else none
  | .lst xs => some (!xs.isEmpty)
  | .tup xs => some (!xs.isEmpty)
  | .dct xs => some (!xs.isEmpty)
  | .scr _ => none
  | .obj _ => none
def tValD (a : En → M D) : En → M Bool := fun env => M.bind (a env) fun x => M.lift (truD x)
theorem emp_of {F : Hp} {p : Pi} {vs : List V} {ds : List D} (r : RpA F p vs ds) : vs.isEmpty = ds.isEmpty := by
  cases r <;> rfl
theorem emp_ofK {F : Hp} {p : Pi} {vs : List (Key × V)} {ds : List (Key × D)} (r : RpK F p vs ds) : vs.isEmpty = ds.isEmpty := by
  cases r <;> rfl
theorem dt_val (ha : DB m X W ca a fa) (he : ∀ whole, isTrue a X.env whole = (do let v ← whole; standAt a.pos; holding [v] (truthy v)) := by intro _; rfl) : DT m X W ca a (tValD fa) := by
  obtain ⟨t1, p1, k1⟩ := ha
  refine ⟨_, pt_truth p1 he, fun H0 g S σ env hS hE Q h => k1 H0 g S σ env hS hE _ (sat_mono (seqT h) (fun x S1 q g1 v e1 s1 r1 => ?_) fun _ _ q => q)⟩
  obtain ⟨k, hk, q⟩ := sat_lift (q g1 e1)
  refine ⟨k, ?_, q g1 (Ext.refl _) s1⟩
  have r := r1.h s1
  cases r with
  | non => cases hk; rfl
  | bl b => cases hk; rfl
  | int b => cases hk; rfl
  | str y =>
    have hk : (if y.length ≤ lim then some ((y.length : Int) != 0) else none) = some k := hk
    split at hk
    · rename_i c; cases hk; exact ⟨lim_lt c, rfl⟩
    · cases hk
  | lst h t => cases hk; exact .inl ⟨_, SqL.of h, by rw [emp_of t]⟩
  | tup h t => cases hk; exact .inr (.inl ⟨_, SqT.of h, by rw [emp_of t]⟩)
  | dct h t => cases hk; exact .inr (.inr ⟨_, h, by rw [emp_ofK t]⟩)
  | scr h => cases hk
  | obj h => cases hk
def eIfD (c : En → M Bool) (a b : En → M D) : En → M D := fun env => M.bind (c env) fun x => if x = true then a env else b env
theorem de_if {c : Expr} {tc : En → M Bool} (hc : DT m X W ca c tc) (ha : DE m X W ca a fa) (hb : DE m X W ca b fb) : DE m X W ca (.IfExp c a b pos) (eIfD tc fa fb) := by
  obtain ⟨t1, p1, k1⟩ := hc
  obtain ⟨t2, p2, k2⟩ := ha
  obtain ⟨t3, p3, k3⟩ := hb
  refine ⟨_, pe_ifExp p1 p2 p3, fun H0 g S σ env hS hE Q h => k1 H0 g S σ env hS hE _ (sat_mono (seqE h) (fun x S1 q g1 e1 s1 => ?_) fun _ _ q => q)⟩
  have q := q g1 e1
  cases x with
  | true => exact k2 H0 g1 S1 σ env s1 (hE.ext e1) Q q
  | false => exact k3 H0 g1 S1 σ env s1 (hE.ext e1) Q q

/-! ### subscripts -/
def ixD : D → D → Option D
  | .lst xs, .int i => atI xs i
  | .tup xs, .int i => atI xs i
  | .scr ns, .int i => (atI ns i).map D.int
  | .str s, .int i => if s.length ≤ lim then (atI s.cps.toList i).map fun c => .str ⟨#[c]⟩ else none
  | _, _ => none
theorem at_of {F : Hp} {p : Pi} {vs : List V} {ds : List D} {d : D} {i : Int} (r : RpA F p vs ds) (h : atI ds i = some d) : ∃ v, atI vs i = some v ∧ Rp F p v d := by
  unfold atI at h ⊢
  rw [r.length]
  cases e : ixN ds.length i with
  | none => rw [e] at h; cases h
  | some j =>
    rw [e] at h
    exact r.get j h
/-- as RelOp, the written part given -/
def RelOpK (K : PySem.W.Frag) (r : R2) (op : D → D → Option D) : Prop := ∀ (m : Bool) (ca : Ct) (g : G) (S : Store) (x y : V) (dx dy z : D) (Q : VK), ca.K = K → SOk ca g S → Rb m g x dx → Rb m g y dy → op dx dy = some z → okE m ca g Q z S → r x y g.H Q
theorem rel_ix {K : PySem.W.Frag} : RelOpK K (rIx K) ixD := fun m ca g S x y dx dy z Q hK hS r1 r2 e k => by
  unfold ixD at e
  split at e
  · obtain ⟨a, vs, rfl, h, t⟩ := r1.lst hS
    cases r2.int
    obtain ⟨v, h1, h2⟩ := at_of t e
    exact .inl ⟨a, vs, _, v, rfl, rfl, SqL.of h, h1, k g v (Ext.refl _) hS h2⟩
  · obtain ⟨a, vs, rfl, h, t⟩ := r1.tup hS
    cases r2.int
    obtain ⟨v, h1, h2⟩ := at_of t e
    exact .inr (.inl ⟨a, vs, _, v, rfl, rfl, SqT.of h, h1, k g v (Ext.refl _) hS h2⟩)
  · rename_i ns i
    cases r2.int
    cases e1 : atI ns i with
    | none => rw [e1] at e; cases e
    | some j =>
      rw [e1] at e; cases e
      have r := r1.h hS
      cases r with
      | scr h =>
        have hq := (hS.sc _ _ h).sq
        rw [hK] at hq
        obtain ⟨v, h1, h2⟩ := at_of (RpA.ints (F := g.F) (p := g.p) ns) (i := i) (d := .int j) (by
          unfold atI at e1 ⊢
          rw [List.length_map]
          cases e3 : ixN ns.length i with
          | none => rw [e3] at e1; cases e1
          | some k => rw [e3] at e1; simpa using e1)
        exact .inl ⟨_, _, _, v, rfl, rfl, hq, h1, k g v (Ext.refl _) hS h2⟩
  · rename_i s i
    cases r2.int
    cases r1.str
    split at e
    · rename_i c
      cases e1 : atI s.cps.toList i with
      | none => rw [e1] at e; cases e
      | some j =>
        rw [e1] at e; cases e
        exact .inr (.inr ⟨_, _, j, rfl, rfl, lim_lt c, e1, k g _ (Ext.refl _) hS (.str _)⟩)
    · cases e
  · cases e
theorem run2K {ta tb : TE} {r : R2} {op : D → D → Option D} (hK : ca.K = X.K) (ho : RelOpK X.K r op)
    (ka : ∀ H0 g S σ env, SOk ca g S → EnvOk H0 g σ env → ∀ Q : VK, (fa env S).sat (okB m ca g Q) (exE m ca W g σ) → ta σ g.H Q)
    (kb : ∀ H0 g S σ env, SOk ca g S → EnvOk H0 g σ env → ∀ Q : VK, (fb env S).sat (okB m ca g Q) (exE m ca W g σ) → tb σ g.H Q) :
    ∀ H0 g S σ env, SOk ca g S → EnvOk H0 g σ env → ∀ Q : VK, (eBin op fa fb env S).sat (okE m ca g Q) (exE m ca W g σ) → tOp r ta tb σ g.H Q := fun H0 g S σ env hS hE Q h => by
  refine ka H0 g S σ env hS hE _ (sat_mono (seqE h) (fun x S1 q g1 v e1 s1 r1 => ?_) fun _ _ q => q)
  refine kb H0 g1 S1 σ env s1 (hE.ext e1) _ (sat_mono (seqE (q g1 e1)) (fun y S2 q2 g2 u e2 s2 r2 => ?_) fun _ _ q => q)
  obtain ⟨z, hz, k⟩ := sat_lift (q2 g2 e2)
  exact ho m ca g2 S2 v u x y z Q hK s2 (r1.ext s2 e2) r2 hz k
theorem de_ix (ha : DB m X W ca a fa) (hb : DB m X W ca b fb) (hK : ca.K = X.K := by rfl) (hs : PlainIx b := by intro _ _; rfl) : DE m X W ca (.Subscript a b pos) (eBin ixD fa fb) := by
  obtain ⟨ta, pa, ka⟩ := ha
  obtain ⟨tb, pb, kb⟩ := hb
  exact ⟨_, pe_ix ix_seq pa pb hs, run2K hK rel_ix ka kb⟩
theorem de_dget (hu : X.A.units + 64 < cLine) (ha : DB m X W ca a fa) (hb : DB m X W ca b fb) (hs : NoSl b := by intro _ _; rfl) : DE m X W ca (.Subscript a b pos) (eBin dgetD fa fb) := by
  obtain ⟨ta, pa, ka⟩ := ha
  obtain ⟨tb, pb, kb⟩ := hb
  refine ⟨_, pe_dget (Nat.lt_of_le_of_lt (Nat.add_le_add_left (by decide : 1 ≤ 64) _) hu) pa pb hs, run2 (r := fun x y H Q => ∃ a v, x = .ref a ∧ DGet H a y (some v) ∧ Q v H) (fun m ca g S x y dx dy z Q hS r1 r2 e k => ?_) ka kb⟩
  cases dx with
  | dct kvs =>
    obtain ⟨a, vs, rfl, h, t⟩ := r1.dct hS
    have e : (keyD dy).bind (getK kvs) = some z := e
    cases e1 : keyD dy with
    | none => rw [e1] at e; cases e
    | some q =>
      rw [e1] at e
      have e : getK kvs q = some z := e
      rcases getK_v t q with ⟨h1, _⟩ | ⟨d, v, h1, h2, h3⟩
      · rw [h1] at e; cases e
      · rw [h1] at e; cases e
        refine ⟨a, v, rfl, ?_, k g v (Ext.refl _) hS h3⟩
        rw [keyD_v (r2.h hS) e1, ← h2]
        exact DGet.k h
  | _ => cases e

/-! ### slices -/
def oPart (o : Option (En → M D)) : En → M (Option Int) := match o with
  | none => fun _ => M.ret none
  | some f => fun env => M.bind (f env) fun x => match x with
    | .int i => M.ret (some i)
    | _ => M.bad
def DP (m : Bool) (X : Cx) (W : WX) (ca : Ct) (e : Option Expr) (f : En → M (Option Int)) : Prop :=
  ∃ t, PO X e t ∧ ∀ H0 g S σ env, SOk ca g S → EnvOk H0 g σ env → ∀ Q : Option Int → Hp → Prop, (f env S).sat (fun o S' => ∀ g', Ext m g g' → SOk ca g' S' → Q o g'.H) (exE m ca W g σ) → t σ g.H Q
theorem dp_none : DP m X W ca none (oPart none) := ⟨_, po_none, fun H0 g S σ env hS hE Q h => h g (Ext.refl _) hS⟩
theorem dp_some (ha : DE m X W ca a fa) : DP m X W ca (some a) (oPart (some fa)) := by
  obtain ⟨t, p, k⟩ := ha
  refine ⟨_, po_some p, fun H0 g S σ env hS hE Q h => k H0 g S σ env hS hE _ (sat_mono (sat_bind h) (fun x S1 q g1 v e1 s1 r1 => ?_) fun _ _ q => q)⟩
  cases x with
  | int i =>
    cases r1
    exact ⟨i, rfl, (show ∀ g', Ext m g g' → SOk ca g' S1 → Q (some i) g'.H from q) g1 e1 s1⟩
  | _ => exact q.elim
def cutD (xs : List D) (lo hi : Option Int) : List D := (xs.drop (HT.sIx xs.length 0 lo)).take (HT.sIx xs.length xs.length hi - HT.sIx xs.length 0 lo)
def cutI (xs : List Int) (lo hi : Option Int) : List Int := (xs.drop (HT.sIx xs.length 0 lo)).take (HT.sIx xs.length xs.length hi - HT.sIx xs.length 0 lo)
theorem cut_rp {F : Hp} {p : Pi} {vs : List V} {ds : List D} (r : RpA F p vs ds) (lo hi : Option Int) : RpA F p (cutV vs lo hi) (cutD ds lo hi) := by
  unfold cutV cutD
  rw [r.length]
  exact RpA.take _ (RpA.drop _ r)
/-- xs[lo:hi], a new list -/
def oSl (a : En → M D) (lo hi : En → M (Option Int)) : En → M (List D) := fun env => M.bind (a env) fun x => M.bind (lo env) fun l => M.bind (hi env) fun u => match x with
  | .lst xs => M.ret (cutD xs l u)
  | .scr ns => M.ret ((cutI ns l u).map D.int)
  | _ => M.bad
/-- s[lo:hi], a text -/
def eSl (a : En → M D) (lo hi : En → M (Option Int)) : En → M D := fun env => M.bind (a env) fun x => M.bind (lo env) fun l => M.bind (hi env) fun u => match x with
  | .str s => if s.length ≤ lim then M.ret (.str (cutS s l u)) else M.bad
  | _ => M.bad
theorem do_sl {lo hi : Option Expr} {fl fh : En → M (Option Int)} {p2 : Pos} (ha : DB m X W ca a fa) (hl : DP m X W ca lo fl) (hh : DP m X W ca hi fh) (hK : ca.K = X.K := by rfl) : DO m X W ca (.Subscript a (.Slice lo hi none p2) pos) (oSl fa fl fh) := by
  obtain ⟨t1, p1, k1⟩ := ha
  obtain ⟨t2, q2, k2⟩ := hl
  obtain ⟨t3, p3, k3⟩ := hh
  refine ⟨_, pe_slice sl_list p1 q2 p3, fun H0 g S σ env hS hE Q h => ?_⟩
  refine k1 H0 g S σ env hS hE _ (sat_mono (seqO h) (fun x S1 q g1 v e1 s1 r1 => ?_) fun _ _ q => q)
  refine k2 H0 g1 S1 σ env s1 (hE.ext e1) _ (sat_mono (seqO (q g1 e1)) (fun l S2 q g2 e2 s2 => ?_) fun _ _ q => q)
  refine k3 H0 g2 S2 σ env s2 (hE.ext (e1.trans e2)) _ (sat_mono (seqO (q g2 e2)) (fun u S3 q g3 e3 s3 => ?_) fun _ _ q => q)
  have q := q g3 e3
  have r1 := r1.ext s3 (e2.trans e3)
  cases x with
  | lst xs =>
    obtain ⟨a, vs, rfl, h, t⟩ := r1.lst s3
    refine ⟨a, vs, rfl, SqL.of h, fun z hz => ?_⟩
    exact (show okO m ca g3 Q (cutD xs l u) S3 from q) (g3.nw z _) z _ (ext_nw s3 hz _) (sok_nw s3 hz _) hz upd_same (s3.free hz) (s3.nop hz) (cut_rp t l u)
  | scr ns =>
    have r := r1.h s3
    cases r with
    | scr h =>
      have hq := (s3.sc _ _ h).sq
      rw [hK] at hq
      refine ⟨_, _, rfl, hq, fun z hz => ?_⟩
      have e9 : cutD (ns.map D.int) l u = (cutI ns l u).map D.int := by unfold cutD cutI; simp [List.map_take, List.map_drop]
      refine (show okO m ca g3 Q ((cutI ns l u).map D.int) S3 from q) (g3.nw z _) z _ (ext_nw s3 hz _) (sok_nw s3 hz _) hz upd_same (s3.free hz) (s3.nop hz) ?_
      rw [← e9]
      exact cut_rp (RpA.ints ns) l u
  | _ => exact q.elim
theorem de_sl {lo hi : Option Expr} {fl fh : En → M (Option Int)} {p2 : Pos} (ha : DB m X W ca a fa) (hl : DP m X W ca lo fl) (hh : DP m X W ca hi fh) : DE m X W ca (.Subscript a (.Slice lo hi none p2) pos) (eSl fa fl fh) := by
  obtain ⟨t1, p1, k1⟩ := ha
  obtain ⟨t2, q2, k2⟩ := hl
  obtain ⟨t3, p3, k3⟩ := hh
  refine ⟨_, pe_slice sl_str p1 q2 p3, fun H0 g S σ env hS hE Q h => ?_⟩
  refine k1 H0 g S σ env hS hE _ (sat_mono (seqE h) (fun x S1 q g1 v e1 s1 r1 => ?_) fun _ _ q => q)
  refine k2 H0 g1 S1 σ env s1 (hE.ext e1) _ (sat_mono (seqE (q g1 e1)) (fun l S2 q g2 e2 s2 => ?_) fun _ _ q => q)
  refine k3 H0 g2 S2 σ env s2 (hE.ext (e1.trans e2)) _ (sat_mono (seqE (q g2 e2)) (fun u S3 q g3 e3 s3 => ?_) fun _ _ q => q)
  have q := q g3 e3
  have r1 := r1.ext s3 (e2.trans e3)
  cases x with
  | str xs =>
    cases r1.str
    dsimp only at q
    by_cases c : xs.length ≤ lim
    · rw [if_pos c] at q
      exact ⟨xs, rfl, lim_lt c, (show okE m ca g3 Q (.str (cutS xs l u)) S3 from q) g3 _ (Ext.refl _) s3 (.str _)⟩
    · rw [if_neg c] at q; exact q.elim
  | _ => exact q.elim
end
end Dn

namespace Dn
open PySem L2

/-! ### arguments that are read for now -/
inductive RbA (m : Bool) (g : G) : List V → List D → Prop where
  | nil : RbA m g [] []
  | cons {v : V} {d : D} {vs : List V} {ds : List D} : Rb m g v d → RbA m g vs ds → RbA m g (v :: vs) (d :: ds)
theorem RbA.ext {m : Bool} {ca : Ct} {S : Store} {g g' : G} (hS : SOk ca g' S) (e : Ext m g g') : ∀ {vs : List V} {ds : List D}, RbA m g vs ds → RbA m g' vs ds
  | _, _, .nil => .nil
  | _, _, .cons h t => .cons (h.ext hS e) (RbA.ext hS e t)
def okBA (m : Bool) (ca : Ct) (g : G) (Q : List V → Hp → Prop) : List D → Store → Prop := fun ds S' => ∀ g' vs, Ext m g g' → SOk ca g' S' → RbA m g' vs ds → Q vs g'.H
def DAB (m : Bool) (X : Cx) (W : WX) (ca : Ct) (es : List Expr) (f : En → M (List D)) : Prop :=
  ∃ t, PA X es t ∧ ∀ H0 g S σ env, SOk ca g S → EnvOk H0 g σ env → ∀ Q : List V → Hp → Prop, (f env S).sat (okBA m ca g Q) (exE m ca W g σ) → t σ g.H Q
section
variable {m : Bool} {X : Cx} {W : WX} {ca : Ct} {a b e : Expr} {fa fb : En → M D} {es : List Expr} {fs : En → M (List D)} {pos : Pos}
theorem seqBA {α : Type} {c : M α} {k : α → M (List D)} {S : Store} {g : G} {σ : L2.St} {Q : List V → Hp → Prop} (h : (M.bind c k S).sat (okBA m ca g Q) (exE m ca W g σ)) :
    (c S).sat (fun a S' => ∀ g', Ext m g g' → (k a S').sat (okBA m ca g' Q) (exE m ca W g' σ)) (exE m ca W g σ) :=
  sat_mono (sat_bind h) (fun a S' h g' e => sat_mono h (fun d S2 q g2 v e2 s r => q g2 v (e.trans e2) s r) fun c S2 q => q.mono e) fun _ _ q => q
theorem dab_nil : DAB m X W ca [] aNil := ⟨_, pa_nil, fun H0 g S σ env hS hE Q h => h g [] (Ext.refl g) hS .nil⟩
theorem dab_cons (h1 : DB m X W ca e fa) (h2 : DAB m X W ca es fs) (hs : starEach (e :: es) X.env = (false, eval e X.env) :: starEach es X.env := by rfl) : DAB m X W ca (e :: es) (aCons fa fs) := by
  obtain ⟨t, p, k⟩ := h1
  obtain ⟨t2, p2, k2⟩ := h2
  refine ⟨_, pa_cons p p2 hs, fun H0 g S σ env hS hE Q h => ?_⟩
  refine k H0 g S σ env hS hE _ (sat_mono (seqBA h) (fun d S1 q g1 v e1 s1 r1 => ?_) fun _ _ q => q)
  refine k2 H0 g1 S1 σ env s1 (hE.ext e1) _ (sat_mono (seqBA (q g1 e1)) (fun ds S2 q2 g2 vs e2 s2 r2 => ?_) fun _ _ q => q)
  exact (show okBA m ca g2 Q (d :: ds) S2 from q2 g2 e2) g2 _ (Ext.refl g2) s2 (.cons (r1.ext s2 e2) r2)

/-! ### built-in functions -/
def RelC (K : PySem.W.Frag) (r : List V → Hp → VK → Prop) (op : List D → Option D) : Prop := ∀ (m : Bool) (ca : Ct) (g : G) (S : Store) (vs : List V) (ds : List D) (z : D) (Q : VK), ca.K = K → SOk ca g S → RbA m g vs ds → op ds = some z → okE m ca g Q z S → r vs g.H Q
def eCall (op : List D → Option D) (fs : En → M (List D)) : En → M D := fun env => M.bind (fs env) fun ds => M.lift (op ds)
theorem runC {r : List V → Hp → VK → Prop} {op : List D → Option D} {t : TA} (hK : ca.K = X.K) (ho : RelC X.K r op)
    (k : ∀ H0 g S σ env, SOk ca g S → EnvOk H0 g σ env → ∀ Q : List V → Hp → Prop, (fs env S).sat (okBA m ca g Q) (exE m ca W g σ) → t σ g.H Q) :
    ∀ H0 g S σ env, SOk ca g S → EnvOk H0 g σ env → ∀ Q : VK, (eCall op fs env S).sat (okE m ca g Q) (exE m ca W g σ) → tCB r t σ g.H Q := fun H0 g S σ env hS hE Q h => by
  refine k H0 g S σ env hS hE _ (sat_mono (seqE h) (fun ds S1 q g1 vs e1 s1 r1 => ?_) fun _ _ q => q)
  obtain ⟨z, hz, k⟩ := sat_lift (q g1 e1)
  exact ho m ca g1 S1 vs ds z Q hK s1 r1 hz k
theorem de_fnB {x : Str} {id : String} {r : List V → Hp → VK → Prop} {op : List D → Option D} {p : Pos} (hc : CallR X (.builtin id) r) (hK : ca.K = X.K) (ho : RelC X.K r op) (hg : Gl X x) (hm : X.mg x = none) (hv : bootBuiltins x = some (.builtin id)) (ha : DAB m X W ca (e :: es) fs)
    (hn : x ≠ "__name__" := by decide) (hdb : (x == ("__debug__" : Str)) = false := by decide) (he : starEach (e :: es) X.env = (false, eval e X.env) :: starEach es X.env := by rfl) (hpl : (backTo pos (starEach es X.env)).any (·.1) = false := by rfl) :
    DE m X W ca (.Call (.Name x p) (e :: es) [] pos) (eCall op fs) := by
  obtain ⟨t, p, k⟩ := ha
  exact ⟨_, pe_callB hc hg hm hv p hn hdb he hpl, runC hK ho k⟩
theorem de_fnT {x : Str} {T : String} {r : List V → Hp → VK → Prop} {op : List D → Option D} {p : Pos} (hc : CallR X (.type T) r) (hK : ca.K = X.K) (ho : RelC X.K r op) (hg : Gl X x) (hm : X.mg x = none) (hv : bootBuiltins x = some (.type T)) (ha : DAB m X W ca (e :: es) fs)
    (hn : x ≠ "__name__" := by decide) (hdb : (x == ("__debug__" : Str)) = false := by decide) (he : starEach (e :: es) X.env = (false, eval e X.env) :: starEach es X.env := by rfl) (hpl : (backTo pos (starEach es X.env)).any (·.1) = false := by rfl) :
    DE m X W ca (.Call (.Name x p) (e :: es) [] pos) (eCall op fs) := by
  obtain ⟨t, p, k⟩ := ha
  exact ⟨_, pe_callTy hc hg hm hv p hn hdb he hpl, runC hK ho k⟩
theorem rba1 {g : G} {vs : List V} {d : D} (r : RbA m g vs [d]) : ∃ v, vs = [v] ∧ Rb m g v d := by
  cases r with
  | cons h t => cases t; exact ⟨_, rfl, h⟩
theorem rba2 {g : G} {vs : List V} {d d' : D} (r : RbA m g vs [d, d']) : ∃ v v', vs = [v, v'] ∧ Rb m g v d ∧ Rb m g v' d' := by
  cases r with
  | cons h t => obtain ⟨w, rfl, h2⟩ := rba1 t; exact ⟨_, _, rfl, h, h2⟩
/-- len -/
def lenO : List D → Option D
  | [.str s] => if s.length ≤ lim then some (.int s.length) else none
  | [.lst xs] => some (.int xs.length)
  | [.tup xs] => some (.int xs.length)
  | [.scr xs] => some (.int xs.length)
  | [.dct xs] => some (.int xs.length)
  | _ => none
def rLen (K : PySem.W.Frag) : List V → Hp → VK → Prop := fun xs H Q => (∃ x n, xs = [x] ∧ LenV K x H n ∧ Q (.int n) H) ∨ ∃ a kvs, xs = [.ref a] ∧ Rd H a (.dK kvs) ∧ Q (.int kvs.length) H
theorem call_len2 {X : Cx} : CallR X (.builtin "len") (rLen X.K) := by
  intro pins s σ H xs us Q I r h
  rcases h with h | ⟨a, kvs, rfl, hd, q⟩
  · exact call_len pins s σ H xs us Q I r h
  · obtain ⟨u, rfl, rx⟩ := vals1 r
    cases rx
    exact d_len I hd fun t s' I' => ⟨.int kvs.length, H, I', ⟨_, rfl⟩, q⟩
theorem rpK_length : ∀ {F : Hp} {p : Pi} {vs : List (Key × V)} {xs : List (Key × D)}, RpK F p vs xs → vs.length = xs.length
  | _, _, _, _, .nil => rfl
  | _, _, _, _, .cons _ t => by simp [rpK_length t]
theorem rel_len {K : PySem.W.Frag} : RelC K (rLen K) lenO := fun m ca g S vs ds z Q hK hS r e k => by
  unfold lenO at e
  split at e
  · split at e
    · rename_i c; cases e
      obtain ⟨v, rfl, h⟩ := rba1 r
      cases h.str
      exact .inl ⟨_, _, rfl, ⟨lim_lt c, rfl⟩, k g _ (Ext.refl _) hS (.int _)⟩
    · cases e
  · cases e
    obtain ⟨v, rfl, h⟩ := rba1 r
    obtain ⟨a, vs, rfl, h1, h2⟩ := h.lst hS
    exact .inl ⟨_, _, rfl, .inl ⟨vs, SqL.of h1, h2.length.symm⟩, k g _ (Ext.refl _) hS (.int _)⟩
  · cases e
    obtain ⟨v, rfl, h⟩ := rba1 r
    obtain ⟨a, vs, rfl, h1, h2⟩ := h.tup hS
    exact .inl ⟨_, _, rfl, .inr ⟨vs, SqT.of h1, h2.length.symm⟩, k g _ (Ext.refl _) hS (.int _)⟩
  · cases e
    obtain ⟨v, rfl, h⟩ := rba1 r
    have h := h.h hS
    cases h with
    | scr h =>
      have hq := (hS.sc _ _ h).sq
      rw [hK] at hq
      exact .inl ⟨_, _, rfl, .inl ⟨_, hq, by simp⟩, k g _ (Ext.refl _) hS (.int _)⟩
  · cases e
    obtain ⟨v, rfl, h⟩ := rba1 r
    obtain ⟨a, vs, rfl, h1, h2⟩ := h.dct hS
    exact .inr ⟨_, vs, rfl, .inl h1, by rw [rpK_length h2]; exact k g _ (Ext.refl _) hS (.int _)⟩
  · cases e
theorem de_len {p : Pos} (ha : DB m X W ca a fa) (hK : ca.K = X.K := by rfl) (hg : Gl X "len" := by rfl) (hm : X.mg "len" = none := by assumption) (hs : starEach [a] X.env = (false, eval a X.env) :: starEach [] X.env := by rfl) : DE m X W ca (.Call (.Name "len" p) [a] [] pos) (eCall lenO (aCons fa aNil)) :=
  de_fnB call_len2 hK rel_len hg hm PySem.boot_len (dab_cons ha dab_nil hs) (he := hs)
def maxO : List D → Option D
  | [.int i, .int j] => some (.int (if j > i then j else i))
  | _ => none
def minO : List D → Option D
  | [.int i, .int j] => some (.int (if j < i then j else i))
  | _ => none
theorem rel_max {K : PySem.W.Frag} : RelC K (fun xs H Q => ∃ i j, xs = [.int i, .int j] ∧ Q (.int (if j > i then j else i)) H) maxO := fun m ca g S vs ds z Q _ hS r e k => by
  unfold maxO at e
  split at e
  · cases e
    obtain ⟨v, v', rfl, h, h'⟩ := rba2 r
    cases h.int; cases h'.int
    exact ⟨_, _, rfl, k g _ (Ext.refl _) hS (.int _)⟩
  · cases e
theorem rel_min {K : PySem.W.Frag} : RelC K (fun xs H Q => ∃ i j, xs = [.int i, .int j] ∧ Q (.int (if j < i then j else i)) H) minO := fun m ca g S vs ds z Q _ hS r e k => by
  unfold minO at e
  split at e
  · cases e
    obtain ⟨v, v', rfl, h, h'⟩ := rba2 r
    cases h.int; cases h'.int
    exact ⟨_, _, rfl, k g _ (Ext.refl _) hS (.int _)⟩
  · cases e
theorem de_max2 {p : Pos} (hc : X.calm = true) (ha : DB m X W ca a fa) (hb : DB m X W ca b fb) (hK : ca.K = X.K := by rfl) (hg : Gl X "max" := by rfl) (hm : X.mg "max" = none := by assumption) (hs : starEach [a, b] X.env = (false, eval a X.env) :: starEach [b] X.env := by rfl) (hs2 : starEach [b] X.env = (false, eval b X.env) :: starEach [] X.env := by rfl) (hpl : (backTo pos (starEach [b] X.env)).any (·.1) = false := by rfl) :
    DE m X W ca (.Call (.Name "max" p) [a, b] [] pos) (eCall maxO (aCons fa (aCons fb aNil))) :=
  de_fnB (call_max2 hc) hK rel_max hg hm (by decide +kernel) (dab_cons ha (dab_cons hb dab_nil hs2) hs) (he := hs) (hpl := hpl)
theorem de_min2 {p : Pos} (hc : X.calm = true) (ha : DB m X W ca a fa) (hb : DB m X W ca b fb) (hK : ca.K = X.K := by rfl) (hg : Gl X "min" := by rfl) (hm : X.mg "min" = none := by assumption) (hs : starEach [a, b] X.env = (false, eval a X.env) :: starEach [b] X.env := by rfl) (hs2 : starEach [b] X.env = (false, eval b X.env) :: starEach [] X.env := by rfl) (hpl : (backTo pos (starEach [b] X.env)).any (·.1) = false := by rfl) :
    DE m X W ca (.Call (.Name "min" p) [a, b] [] pos) (eCall minO (aCons fa (aCons fb aNil))) :=
  de_fnB (call_min2 hc) hK rel_min hg hm (by decide +kernel) (dab_cons ha (dab_cons hb dab_nil hs2) hs) (he := hs) (hpl := hpl)
/-- int(flag), int(n), int(text) -/
def intO : List D → Option D
  | [.int i] => some (.int i)
  | [.bl k] => some (.int (if k then 1 else 0))
  | [.str s] => if s.length ≤ 640 then (PySem.intText? s).map D.int else none
  | _ => none
theorem rel_int {K : PySem.W.Frag} : RelC K (fun xs H Q => ((∃ i, xs = [.int i] ∧ Q (.int i) H) ∨ ∃ k, xs = [.bl k] ∧ Q (.int (if k then 1 else 0)) H) ∨ ∃ a n, xs = [.str a] ∧ PySem.intText? a = some n ∧ a.length ≤ 640 ∧ Q (.int n) H) intO := fun m ca g S vs ds z Q _ hS r e k => by
  unfold intO at e
  split at e
  · cases e
    obtain ⟨v, rfl, h⟩ := rba1 r
    cases h.int
    exact .inl (.inl ⟨_, rfl, k g _ (Ext.refl _) hS (.int _)⟩)
  · cases e
    obtain ⟨v, rfl, h⟩ := rba1 r
    cases h.bl
    exact .inl (.inr ⟨_, rfl, k g _ (Ext.refl _) hS (.int _)⟩)
  · rename_i s
    split at e
    · rename_i c
      cases e1 : PySem.intText? s with
      | none => rw [e1] at e; cases e
      | some n =>
        rw [e1] at e; cases e
        obtain ⟨v, rfl, h⟩ := rba1 r
        cases h.str
        exact .inr ⟨_, _, rfl, e1, c, k g _ (Ext.refl _) hS (.int _)⟩
    · cases e
  · cases e
theorem de_intF {p : Pos} (ha : DB m X W ca a fa) (hK : ca.K = X.K := by rfl) (hg : Gl X "int" := by rfl) (hm : X.mg "int" = none := by assumption) (hs : starEach [a] X.env = (false, eval a X.env) :: starEach [] X.env := by rfl) : DE m X W ca (.Call (.Name "int" p) [a] [] pos) (eCall intO (aCons fa aNil)) :=
  de_fnT (call_int1.or call_int_str) hK rel_int hg hm (by decide +kernel) (dab_cons ha dab_nil hs) (he := hs)
def strO : List D → Option D
  | [.int i] => if i.natAbs.log2 < 1920 then some (.str (toString i)) else none
  | [.str s] => some (.str s)
  | _ => none
/-- str(text) is the text -/
theorem rel_str {K : PySem.W.Frag} : RelC K (fun xs H Q => (∃ i, xs = [.int i] ∧ i.natAbs.log2 < 1920 ∧ Q (.str (toString i)) H) ∨ ∃ a, xs = [.str a] ∧ Q (.str a) H) strO := fun m ca g S vs ds z Q _ hS r e k => by
  unfold strO at e
  split at e
  · split at e
    · rename_i c; cases e
      obtain ⟨v, rfl, h⟩ := rba1 r
      cases h.int
      exact .inl ⟨_, rfl, c, k g _ (Ext.refl _) hS (.str _)⟩
    · cases e
  · cases e
    obtain ⟨v, rfl, h⟩ := rba1 r
    cases h.str
    exact .inr ⟨_, rfl, k g _ (Ext.refl _) hS (.str _)⟩
  · cases e
theorem de_strI {p : Pos} (ha : DB m X W ca a fa) (hK : ca.K = X.K := by rfl) (hg : Gl X "str" := by rfl) (hm : X.mg "str" = none := by assumption) (hs : starEach [a] X.env = (false, eval a X.env) :: starEach [] X.env := by rfl) : DE m X W ca (.Call (.Name "str" p) [a] [] pos) (eCall strO (aCons fa aNil)) :=
  de_fnT (call_str_int.or SkE.call_str_str) hK rel_str hg hm (by decide +kernel) (dab_cons ha dab_nil hs) (he := hs)
def ordO : List D → Option D
  | [.str s] => if s.length = 1 then some (.int (s.cps.getD 0 0 : Nat)) else none
  | _ => none
theorem rel_ord {K : PySem.W.Frag} : RelC K (fun xs H Q => ∃ x, xs = [.str x] ∧ x.length = 1 ∧ Q (.int (x.cps.getD 0 0 : Nat)) H) ordO := fun m ca g S vs ds z Q _ hS r e k => by
  unfold ordO at e
  split at e
  · split at e
    · rename_i c; cases e
      obtain ⟨v, rfl, h⟩ := rba1 r
      cases h.str
      exact ⟨_, rfl, c, k g _ (Ext.refl _) hS (.int _)⟩
    · cases e
  · cases e
theorem de_ord {p : Pos} (ha : DB m X W ca a fa) (hK : ca.K = X.K := by rfl) (hg : Gl X "ord" := by rfl) (hm : X.mg "ord" = none := by assumption) (hs : starEach [a] X.env = (false, eval a X.env) :: starEach [] X.env := by rfl) : DE m X W ca (.Call (.Name "ord" p) [a] [] pos) (eCall ordO (aCons fa aNil)) :=
  de_fnB call_ord hK rel_ord hg hm (by decide +kernel) (dab_cons ha dab_nil hs) (he := hs)
/-- lists of bools, of ints -/
def blsD : List D → Option (List Bool)
  | [] => some []
  | .bl b :: r => (blsD r).map (b :: ·)
  | _ => none
def intsD : List D → Option (List Int)
  | [] => some []
  | .int b :: r => (intsD r).map (b :: ·)
  | _ => none
def strsD : List D → Option (List Str)
  | [] => some []
  | .str b :: r => (strsD r).map (b :: ·)
  | _ => none
theorem bls_v {F : Hp} {p : Pi} : ∀ {ds : List D} {vs : List V} {bs : List Bool}, RpA F p vs ds → blsD ds = some bs → vs = bs.map V.bl
  | [], _, _, r, e => by cases r; cases e; rfl
  | d :: ds, _, bs, r, e => by
    cases r with
    | cons h t =>
      cases d with
      | bl b =>
        cases h
        cases e1 : blsD ds with
        | none => simp [blsD, e1] at e
        | some cs =>
          have e : some (b :: cs) = some bs := by simpa [blsD, e1] using e
          cases e
          rw [bls_v t e1]; rfl
      | _ => cases e
theorem ints_v {F : Hp} {p : Pi} : ∀ {ds : List D} {vs : List V} {bs : List Int}, RpA F p vs ds → intsD ds = some bs → vs = bs.map V.int
  | [], _, _, r, e => by cases r; cases e; rfl
  | d :: ds, _, bs, r, e => by
    cases r with
    | cons h t =>
      cases d with
      | int b =>
        cases h
        cases e1 : intsD ds with
        | none => simp [intsD, e1] at e
        | some cs =>
          have e : some (b :: cs) = some bs := by simpa [intsD, e1] using e
          cases e
          rw [ints_v t e1]; rfl
      | _ => cases e
theorem strs_v {F : Hp} {p : Pi} : ∀ {ds : List D} {vs : List V} {bs : List Str}, RpA F p vs ds → strsD ds = some bs → vs = bs.map V.str
  | [], _, _, r, e => by cases r; cases e; rfl
  | d :: ds, _, bs, r, e => by
    cases r with
    | cons h t =>
      cases d with
      | str b =>
        cases h
        cases e1 : strsD ds with
        | none => simp [strsD, e1] at e
        | some cs =>
          have e : some (b :: cs) = some bs := by simpa [strsD, e1] using e
          cases e
          rw [strs_v t e1]; rfl
      | _ => cases e
def allO : List D → Option D
  | [.lst xs] => (blsD xs).map fun bs => .bl (bs.all id)
  | _ => none
theorem rel_all {K : PySem.W.Frag} : RelC K (rAll K) allO := fun m ca g S vs ds z Q _ hS r e k => by
  unfold allO at e
  split at e
  · rename_i xs
    cases e1 : blsD xs with
    | none => rw [e1] at e; cases e
    | some bs =>
      rw [e1] at e; cases e
      obtain ⟨v, rfl, h⟩ := rba1 r
      obtain ⟨a, vs, rfl, h1, h2⟩ := h.lst hS
      cases bls_v h2 e1
      exact ⟨a, bs, rfl, SqL.of h1, k g _ (Ext.refl _) hS (.bl _)⟩
  · cases e
theorem de_all {p : Pos} (hc : X.calm = true) (ha : DB m X W ca a fa) (hK : ca.K = X.K := by rfl) (hg : Gl X "all" := by rfl) (hm : X.mg "all" = none := by assumption) (hs : starEach [a] X.env = (false, eval a X.env) :: starEach [] X.env := by rfl) : DE m X W ca (.Call (.Name "all" p) [a] [] pos) (eCall allO (aCons fa aNil)) :=
  de_fnB (cr_all hc) hK rel_all hg hm (by decide +kernel) (dab_cons ha dab_nil hs) (he := hs)
def sumO : List D → Option D
  | [.lst xs] => (intsD xs).map fun bs => .int bs.sum
  | _ => none
theorem rel_sum {K : PySem.W.Frag} : RelC K (rSum K) sumO := fun m ca g S vs ds z Q _ hS r e k => by
  unfold sumO at e
  split at e
  · rename_i xs
    cases e1 : intsD xs with
    | none => rw [e1] at e; cases e
    | some bs =>
      rw [e1] at e; cases e
      obtain ⟨v, rfl, h⟩ := rba1 r
      obtain ⟨a, vs, rfl, h1, h2⟩ := h.lst hS
      cases ints_v h2 e1
      exact ⟨a, bs, rfl, SqL.of h1, k g _ (Ext.refl _) hS (.int _)⟩
  · cases e
theorem de_sum {p : Pos} (hc : X.calm = true) (ha : DB m X W ca a fa) (hK : ca.K = X.K := by rfl) (hg : Gl X "sum" := by rfl) (hm : X.mg "sum" = none := by assumption) (hs : starEach [a] X.env = (false, eval a X.env) :: starEach [] X.env := by rfl) : DE m X W ca (.Call (.Name "sum" p) [a] [] pos) (eCall sumO (aCons fa aNil)) :=
  de_fnB (cr_sum hc) hK rel_sum hg hm (by decide +kernel) (dab_cons ha dab_nil hs) (he := hs)
def greatest : List Int → Option Int
  | [] => none
  | x :: xs => match greatest xs with
    | none => some x
    | some y => some (if x < y then y else x)
def least : List Int → Option Int
  | [] => none
  | x :: xs => match least xs with
    | none => some x
    | some y => some (if y < x then y else x)
theorem greatest_is : ∀ {ns : List Int} {z m : Int}, greatest ns = some z → m ∈ ns → (∀ y ∈ ns, y ≤ m) → z = m
  | x :: xs, z, m, e, hm, hle => by
    unfold greatest at e
    cases e1 : greatest xs with
    | none =>
      rw [e1] at e; cases e
      have : xs = [] := by
        cases xs with
        | nil => rfl
        | cons a r => simp only [greatest] at e1; split at e1 <;> cases e1
      subst this
      exact (List.mem_singleton.mp hm).symm
    | some y =>
      rw [e1] at e; cases e
      have hx := hle x List.mem_cons_self
      rcases List.mem_cons.mp hm with rfl | hm'
      · have hy : y ≤ m := by
          clear hx
          have : ∀ {ns : List Int} {z : Int}, greatest ns = some z → z ∈ ns := by
            intro ns
            induction ns with
            | nil => intro z e; cases e
            | cons a r ih =>
              intro z e
              unfold greatest at e
              cases e2 : greatest r with
              | none => rw [e2] at e; cases e; exact List.mem_cons_self
              | some w =>
                rw [e2] at e; cases e
                split
                · exact List.mem_cons_of_mem _ (ih e2)
                · exact List.mem_cons_self
          exact hle y (List.mem_cons_of_mem _ (this e1))
        rw [if_neg (by omega)]
      · have hy := greatest_is e1 hm' fun w hw => hle w (List.mem_cons_of_mem _ hw)
        subst hy
        split <;> omega
theorem least_is : ∀ {ns : List Int} {z m : Int}, least ns = some z → m ∈ ns → (∀ y ∈ ns, m ≤ y) → z = m
  | x :: xs, z, m, e, hm, hle => by
    unfold least at e
    cases e1 : least xs with
    | none =>
      rw [e1] at e; cases e
      have : xs = [] := by
        cases xs with
        | nil => rfl
        | cons a r => simp only [least] at e1; split at e1 <;> cases e1
      subst this
      exact (List.mem_singleton.mp hm).symm
    | some y =>
      rw [e1] at e; cases e
      have hx := hle x List.mem_cons_self
      rcases List.mem_cons.mp hm with rfl | hm'
      · have hy : m ≤ y := by
          clear hx
          have : ∀ {ns : List Int} {z : Int}, least ns = some z → z ∈ ns := by
            intro ns
            induction ns with
            | nil => intro z e; cases e
            | cons a r ih =>
              intro z e
              unfold least at e
              cases e2 : least r with
              | none => rw [e2] at e; cases e; exact List.mem_cons_self
              | some w =>
                rw [e2] at e; cases e
                split
                · exact List.mem_cons_of_mem _ (ih e2)
                · exact List.mem_cons_self
          exact hle y (List.mem_cons_of_mem _ (this e1))
        rw [if_neg (by omega)]
      · have hy := least_is e1 hm' fun w hw => hle w (List.mem_cons_of_mem _ hw)
        subst hy
        split <;> omega
theorem greatest_pos {ns : List Int} {z : Int} (e : greatest ns = some z) : 0 < ns.length := by
  cases ns with
  | nil => cases e
  | cons _ _ => simp
theorem least_pos {ns : List Int} {z : Int} (e : least ns = some z) : 0 < ns.length := by
  cases ns with
  | nil => cases e
  | cons _ _ => simp
def maxL : List D → Option D
  | [.lst xs] => ((intsD xs).bind greatest).map D.int
  | _ => none
def minL : List D → Option D
  | [.lst xs] => ((intsD xs).bind least).map D.int
  | _ => none
theorem rel_maxL {K : PySem.W.Frag} : RelC K (rMax K) maxL := fun m ca g S vs ds z Q _ hS r e k => by
  unfold maxL at e
  split at e
  · rename_i xs
    cases e1 : intsD xs with
    | none => rw [e1] at e; cases e
    | some bs =>
      rw [e1] at e
      cases e2 : greatest bs with
      | none => rw [Option.bind_some, e2] at e; cases e
      | some y =>
        rw [Option.bind_some, e2] at e; cases e
        obtain ⟨v, rfl, h⟩ := rba1 r
        obtain ⟨a, vs, rfl, h1, h2⟩ := h.lst hS
        cases ints_v h2 e1
        refine ⟨a, bs, rfl, SqL.of h1, greatest_pos e2, fun w hw hle => ?_⟩
        cases greatest_is e2 hw hle
        exact k g _ (Ext.refl _) hS (.int _)
  · cases e
theorem rel_minL {K : PySem.W.Frag} : RelC K (rMin K) minL := fun m ca g S vs ds z Q _ hS r e k => by
  unfold minL at e
  split at e
  · rename_i xs
    cases e1 : intsD xs with
    | none => rw [e1] at e; cases e
    | some bs =>
      rw [e1] at e
      cases e2 : least bs with
      | none => rw [Option.bind_some, e2] at e; cases e
      | some y =>
        rw [Option.bind_some, e2] at e; cases e
        obtain ⟨v, rfl, h⟩ := rba1 r
        obtain ⟨a, vs, rfl, h1, h2⟩ := h.lst hS
        cases ints_v h2 e1
        refine ⟨a, bs, rfl, SqL.of h1, least_pos e2, fun w hw hle => ?_⟩
        cases least_is e2 hw hle
        exact k g _ (Ext.refl _) hS (.int _)
  · cases e
theorem de_maxL {p : Pos} (hc : X.calm = true) (ha : DB m X W ca a fa) (hK : ca.K = X.K := by rfl) (hg : Gl X "max" := by rfl) (hm : X.mg "max" = none := by assumption) (hs : starEach [a] X.env = (false, eval a X.env) :: starEach [] X.env := by rfl) : DE m X W ca (.Call (.Name "max" p) [a] [] pos) (eCall maxL (aCons fa aNil)) :=
  de_fnB (cr_max hc) hK rel_maxL hg hm (by decide +kernel) (dab_cons ha dab_nil hs) (he := hs)
theorem de_minL {p : Pos} (hc : X.calm = true) (ha : DB m X W ca a fa) (hK : ca.K = X.K := by rfl) (hg : Gl X "min" := by rfl) (hm : X.mg "min" = none := by assumption) (hs : starEach [a] X.env = (false, eval a X.env) :: starEach [] X.env := by rfl) : DE m X W ca (.Call (.Name "min" p) [a] [] pos) (eCall minL (aCons fa aNil)) :=
  de_fnB (cr_min hc) hK rel_minL hg hm (by decide +kernel) (dab_cons ha dab_nil hs) (he := hs)

/-! ### isinstance(x, T) -/
def tyN : D → Option String
  | .non => some "NoneType" | .bl _ => some "bool" | .int _ => some "int" | .str _ => some "str"
  | .lst _ => some "list" | .tup _ => some "tuple" | .dct _ => some "dict"
  | .scr _ => none | .obj _ => none
def isiO (T : String) (a : En → M D) : En → M D := fun env => M.bind (a env) fun x => M.lift ((tyN x).bind fun t => (kitB t T).map D.bl)
theorem tyx_of {ca : Ct} {S : Store} {g : G} {K : PySem.W.Frag} (hS : SOk ca g S) {x : V} {d : D} {t : String} (r : Rb m g x d) (h : tyN d = some t) : TyX K g.H x (.type t) := by
  have r := r.h hS
  cases r with
  | non => cases h; exact .base .non
  | bl b => cases h; exact .base (.bl b)
  | int b => cases h; exact .base (.int b)
  | str b => cases h; exact .base (.str b)
  | lst e _ => cases h; exact .base (.lst e)
  | tup e _ => cases h; exact .base (.tup e)
  | dct e _ => cases h; exact .base (.dK e)
  | scr e => cases h
  | obj e => cases h
theorem de_isi (T : String) {x : Str} {p p2 : Pos} (ha : DB m X W ca a fa) (hv2 : bootBuiltins x = some (.type T)) (hg2 : Gl X x := by rfl) (hm2 : X.mg x = none := by assumption) (hn2 : x ≠ "__name__" := by decide) (hd2 : (x == ("__debug__" : Str)) = false := by decide)
    (hg : Gl X "isinstance" := by rfl) (hm : X.mg "isinstance" = none := by assumption) (hs : starEach [a, .Name x p2] X.env = (false, eval a X.env) :: starEach [.Name x p2] X.env := by rfl) (hs2 : starEach [.Name x p2] X.env = (false, eval (.Name x p2) X.env) :: starEach [] X.env := by rfl) (hpl : (backTo pos (starEach [.Name x p2] X.env)).any (·.1) = false := by rfl) :
    DE m X W ca (.Call (.Name "isinstance" p) [a, .Name x p2] [] pos) (isiO T fa) := by
  obtain ⟨t, pa, k⟩ := ha
  refine ⟨_, pe_callB call_isi hg hm PyProof.Rows.boot_isinstance (pa_cons pa (pa_cons (pe_bltn (v := .ty T) hg2 hm2 hv2 rfl hn2 hd2) pa_nil hs2) hs) (he := hs) (hpl := hpl), fun H0 g S σ env hS hE Q h => ?_⟩
  refine k H0 g S σ env hS hE _ (sat_mono (seqE h) (fun d S1 q g1 v e1 s1 r1 => ?_) fun _ _ q => q)
  obtain ⟨z, hz, q⟩ := sat_lift (q g1 e1)
  cases e2 : tyN d with
  | none => rw [e2] at hz; cases hz
  | some t =>
    rw [e2] at hz
    have hz : (kitB t T).map D.bl = some z := hz
    cases e3 : kitB t T with
    | none => rw [e3] at hz; cases hz
    | some b =>
      rw [e3] at hz; cases hz
      exact ⟨v, .ty T, .type t, .type T, b, rfl, .ty T, tyx_of s1 r1 e2, kit_ty e3, (show okE m ca g1 Q (.bl b) S1 from q) g1 _ (Ext.refl _) s1 (.bl b)⟩
end
end Dn

namespace Dn
open PySem L2

/-- as Ext, but the frame's own things may be written -/
structure Mo (m : Bool) (g g' : G) : Prop where
  same : Same g.F g'.F
  obs : PiLe g.p g'.p
  dom : ∀ b, g'.H b = none → g.H b = none
  pure : m = true → g'.p = g.p ∧ ∀ l a o, g.p l = some a → g.H a = some o → g'.H a = some o
  frz : ∀ b o u, g.H b = some (.frz o u) → g'.H b = some (.frz o u)
theorem Mo.refl {m : Bool} (g : G) : Mo m g g := ⟨Same.refl _, PiLe.refl _, fun _ h => h, fun _ => ⟨rfl, fun _ _ _ _ h => h⟩, fun _ _ _ h => h⟩
theorem Ext.mo {m : Bool} {g g' : G} (e : Ext m g g') : Mo m g g' := ⟨e.same, e.obs, e.dom, e.pure, e.frz⟩
theorem Mo.trans {m : Bool} {g g1 g2 : G} (a : Mo m g g1) (b : Mo m g1 g2) : Mo m g g2 :=
  ⟨a.same.trans b.same, a.obs.trans b.obs, fun c h => a.dom c (b.dom c h), fun h => by
    obtain ⟨p1, k1⟩ := a.pure h
    obtain ⟨p2, k2⟩ := b.pure h
    exact ⟨p2.trans p1, fun l c o x y => k2 l c o (by rw [p1]; exact x) (k1 l c o x y)⟩, fun c o u h => b.frz c o u (a.frz c o u h)⟩
theorem Mo.rp {m : Bool} {g g' : G} (e : Mo m g g') {v : V} {d : D} (h : Rp g.F g.p v d) : Rp g'.F g'.p v d := Rp.mono e.same e.obs h
theorem Mo.rpA {m : Bool} {g g' : G} (e : Mo m g g') {v : List V} {d : List D} (h : RpA g.F g.p v d) : RpA g'.F g'.p v d := RpA.mono e.same e.obs h

/-! ### statements -/
inductive Fl where
  | nx (env : En) | rt (d : D) | rtO (xs : List D) | bk (env : En) | ct (env : En) | ex (c : Str) (env : En)
def okS (m : Bool) (ca : Ct) (W : WX) (g0 g : G) (D : Ends) : Fl → Store → Prop
  | .nx env, S' => ∀ g' σ', Ext m g0 g' → Mo m g g' → SOk ca g' S' → EnvOk g0.H g' σ' env → D.nx σ' g'.H
  | .bk env, S' => ∀ g' σ', Ext m g0 g' → Mo m g g' → SOk ca g' S' → EnvOk g0.H g' σ' env → D.bk σ' g'.H
  | .ct env, S' => ∀ g' σ', Ext m g0 g' → Mo m g g' → SOk ca g' S' → EnvOk g0.H g' σ' env → D.ct σ' g'.H
  | .rt d, S' => ∀ g' v, Ext m g0 g' → Mo m g g' → SOk ca g' S' → Rp g'.F g'.p v d → D.rt v g'.H
  | .rtO xs, S' => ∀ g' q vs, Ext m g0 g' → Mo m g g' → SOk ca g' S' → g0.H q = none → g'.H q = some (.lst vs) → g'.F q = none → (∀ l, g'.p l ≠ some q) → RpA g'.F g'.p vs xs → D.rt (.ref q) g'.H
  | .ex c env, S' => ∀ g' σ', Ext m g0 g' → Mo m g g' → SOk ca g' S' → EnvOk g0.H g' σ' env → W (.ref (ca c)) none σ' g'.H
theorem okS.mono {m : Bool} {ca : Ct} {W : WX} {g0 g g1 : G} {D : Ends} {S : Store} (e : Mo m g g1) : ∀ {f : Fl}, okS m ca W g0 g D f S → okS m ca W g0 g1 D f S
  | .nx env, h => fun g' σ' a b c d => h g' σ' a (e.trans b) c d
  | .bk env, h => fun g' σ' a b c d => h g' σ' a (e.trans b) c d
  | .ct env, h => fun g' σ' a b c d => h g' σ' a (e.trans b) c d
  | .rt d, h => fun g' σ' a b c d => h g' σ' a (e.trans b) c d
  | .rtO xs, h => fun g' q vs a b c d e1 f1 g1 h1 => h g' q vs a (e.trans b) c d e1 f1 g1 h1
  | .ex c env, h => fun g' σ' a b c d => h g' σ' a (e.trans b) c d
abbrev noX : Str → Store → Prop := fun _ _ => False
def DS (m : Bool) (X : Cx) (W : WX) (ca : Ct) (st : Stmt) (f : En → M Fl) : Prop :=
  ∃ t, PS X st t ∧ ∀ g0 g S σ env, Ext m g0 g → SOk ca g S → EnvOk g0.H g σ env → ∀ D : Ends, (f env S).sat (okS m ca W g0 g D) noX → t D σ g.H
def DSs (m : Bool) (X : Cx) (W : WX) (ca : Ct) (st : List Stmt) (f : En → M Fl) : Prop :=
  ∃ t, PSs X st t ∧ ∀ g0 g S σ env, Ext m g0 g → SOk ca g S → EnvOk g0.H g σ env → ∀ D : Ends, (f env S).sat (okS m ca W g0 g D) noX → t D σ g.H
/-- an expression within a statement -/
def liftS {α : Type} (c : M α) (env : En) (k : α → M Fl) : M Fl := fun S => match c S with
  | .ok a S' => k a S'
  | .exc x S' => .ok (.ex x env) S'
  | .bad => .bad
theorem sat_liftS {α : Type} {c : M α} {env : En} {k : α → M Fl} {S : Store} {P : Fl → Store → Prop} (h : (liftS c env k S).sat P noX) : (c S).sat (fun a S' => (k a S').sat P noX) (fun x S' => P (.ex x env) S') := by
  unfold liftS at h
  cases e : c S with
  | ok a S' => rw [e] at h; exact h
  | exc c S' => rw [e] at h; exact h
  | bad => rw [e] at h; exact h
section
variable {m : Bool} {X : Cx} {W : WX} {ca : Ct} {a b e : Expr} {fa fb : En → M D} {pos : Pos} {st : Stmt} {rest : List Stmt} {f r : En → M Fl}
theorem exE_of {g0 g : G} {S : Store} {σ : L2.St} {env : En} {D : Ends} {c : Str} (e0 : Ext m g0 g) (hE : EnvOk g0.H g σ env) (h : okS m ca W g0 g D (.ex c env) S) : exE m ca W g σ c S :=
  fun g' e s => h g' σ (e0.trans e) e.mo s (hE.ext e)
/-- the value, then what follows -/
theorem stE {α : Type} {c : M α} {env : En} {k : α → M Fl} {S : Store} {g0 g : G} {σ : L2.St} {D : Ends} (e0 : Ext m g0 g) (hE : EnvOk g0.H g σ env) (h : (liftS c env k S).sat (okS m ca W g0 g D) noX) :
    (c S).sat (fun a S' => ∀ g', Ext m g g' → (k a S').sat (okS m ca W g0 g' D) noX) (exE m ca W g σ) :=
  sat_mono (sat_liftS h) (fun a S' h g' e => sat_mono h (fun fl S2 q => q.mono e.mo) fun _ _ q => q) fun c S' q => exE_of e0 hE q
def sNil : En → M Fl := fun env => M.ret (.nx env)
def sCons (f r : En → M Fl) : En → M Fl := fun env => M.bind (f env) fun fl => match fl with
  | .nx env' => r env'
  | o => M.ret o
theorem dss_nil : DSs m X W ca [] sNil := ⟨_, pss_nil, fun g0 g S σ env e0 hS hE D h => h g σ e0 (Mo.refl g) hS hE⟩
theorem dss_cons (h1 : DS m X W ca st f) (h2 : DSs m X W ca rest r) : DSs m X W ca (st :: rest) (sCons f r) := by
  obtain ⟨t, p, k⟩ := h1
  obtain ⟨t2, p2, k2⟩ := h2
  refine ⟨_, pss_cons p p2, fun g0 g S σ env e0 hS hE D h => ?_⟩
  refine k g0 g S σ env e0 hS hE _ (sat_mono (sat_bind h) (fun fl S1 q => ?_) fun _ _ q => q)
  cases fl with
  | nx env' => exact fun g' σ' e1 mo s1 hE1 => k2 g0 g' S1 σ' env' e1 s1 hE1 D (sat_mono q (fun fl S2 q => q.mono mo) fun _ _ q => q)
  | rt d => exact q
  | rtO xs => exact q
  | bk env' => exact q
  | ct env' => exact q
  | ex c env' => exact q
theorem dss_one (h1 : DS m X W ca st f) : DSs m X W ca [st] f := by
  obtain ⟨t, p, k⟩ := h1
  exact ⟨_, pss_one p, k⟩
def sExpr (a : En → M D) : En → M Fl := fun env => liftS (a env) env fun _ => M.ret (.nx env)
theorem ds_expr (ha : DE m X W ca a fa) (hs : swapsWith a none pos.line X.env = pure false := by rfl) : DS m X W ca (.Expr a pos) (sExpr fa) := by
  obtain ⟨t, p, k⟩ := ha
  refine ⟨_, ps_expr p hs, fun g0 g S σ env e0 hS hE D h => ?_⟩
  exact k g0.H g S σ env hS hE _ (sat_mono (stE e0 hE h) (fun d S1 q g1 v e1 s1 r1 => (show okS m ca W g0 g1 D (.nx env) S1 from q g1 e1) g1 σ (e0.trans e1) (Mo.refl _) s1 (hE.ext e1)) fun _ _ q => q)
def sRet (a : En → M D) : En → M Fl := fun env => liftS (a env) env fun d => M.ret (.rt d)
theorem ds_ret (ha : DE m X W ca a fa) : DS m X W ca (.Return (some a) pos) (sRet fa) := by
  obtain ⟨t, p, k⟩ := ha
  refine ⟨_, ps_ret p, fun g0 g S σ env e0 hS hE D h => ?_⟩
  exact k g0.H g S σ env hS hE _ (sat_mono (stE e0 hE h) (fun d S1 q g1 v e1 s1 r1 => (show okS m ca W g0 g1 D (.rt d) S1 from q g1 e1) g1 v (e0.trans e1) (Mo.refl _) s1 r1) fun _ _ q => q)
def sRetO (a : En → M (List D)) : En → M Fl := fun env => liftS (a env) env fun d => M.ret (.rtO d)
theorem ds_retO {fo : En → M (List D)} (ha : DO m X W ca a fo) : DS m X W ca (.Return (some a) pos) (sRetO fo) := by
  obtain ⟨t, p, k⟩ := ha
  refine ⟨_, ps_ret p, fun g0 g S σ env e0 hS hE D h => ?_⟩
  exact k g0.H g S σ env hS hE _ (sat_mono (stE e0 hE h) (fun d S1 q g1 l vs e1 s1 n h1 h2 h3 r => (show okS m ca W g0 g1 D (.rtO d) S1 from q g1 e1) g1 l vs (e0.trans e1) (Mo.refl _) s1 (e0.dom _ n) h1 h2 h3 r) fun _ _ q => q)
/-- return x, a list of the frame's own -/
def sRetV (i : Nat) : En → M Fl := fun env => match env[i]? with
  | some (.f d) => M.ret (.rt d)
  | some (.o xs) => M.ret (.rtO xs)
  | _ => M.bad
theorem ds_retV (i : Nat) {x : Str} {p2 : Pos} (hN : X.N[i]? = some x := by rfl) (hv : Vis X.env.scope x := by first | exact Or.inl rfl | exact Or.inr (Or.inl rfl) | exact Or.inr (Or.inr rfl)) (hd : (x == ("__debug__" : Str)) = false := by decide)
    (hcd : (x == ("__classdict__" : Str)) = false := by decide) : DS m X W ca (.Return (some (.Name x p2)) pos) (sRetV i) := by
  refine ⟨_, ps_ret (pe_var hN hv hd hcd), fun g0 g S σ env e0 hS hE D h => ?_⟩
  unfold sRetV at h
  cases e : env[i]? with
  | none => rw [e] at h; exact h.elim
  | some w =>
    rw [e] at h
    obtain ⟨v, h1, h2⟩ := hE.get e
    cases w with
    | u => exact h.elim
    | x a => exact h.elim
    | k _ => exact h.elim
    | f d =>
      obtain ⟨w, rfl, q⟩ := h2
      exact ⟨w, h1, (show okS m ca W g0 g D (.rt d) S from h) g w e0 (Mo.refl _) hS q⟩
    | o xs =>
      obtain ⟨l, vs, rfl, q1, q2, q3⟩ := h2
      exact ⟨_, h1, (show okS m ca W g0 g D (.rtO xs) S from h) g l vs e0 (Mo.refl _) hS q3.new q1 q3.out q3.nop q2⟩
def sRetN : En → M Fl := fun env => M.ret (.rt .non)
theorem ds_retN : DS m X W ca (.Return none pos) sRetN := ⟨_, ps_retN, fun g0 g S σ env e0 hS hE D h => h g _ e0 (Mo.refl _) hS .non⟩
def sIf (c : En → M Bool) (t u : En → M Fl) : En → M Fl := fun env => liftS (c env) env fun b => if b = true then t env else u env
theorem ds_if {c : Expr} {x y : List Stmt} {fc : En → M Bool} {t u : En → M Fl} (hc : DT m X W ca c fc) (hx : DSs m X W ca x t) (hy : DSs m X W ca y u) : DS m X W ca (.If c x y pos) (sIf fc t u) := by
  obtain ⟨t1, p1, k1⟩ := hc
  obtain ⟨t2, p2, k2⟩ := hx
  obtain ⟨t3, p3, k3⟩ := hy
  refine ⟨_, ps_if p1 p2 p3, fun g0 g S σ env e0 hS hE D h => ?_⟩
  refine k1 g0.H g S σ env hS hE _ (sat_mono (stE e0 hE h) (fun b S1 q g1 e1 s1 => ?_) fun _ _ q => q)
  have q := q g1 e1
  cases b with
  | true => exact k2 g0 g1 S1 σ env (e0.trans e1) s1 (hE.ext e1) D q
  | false => exact k3 g0 g1 S1 σ env (e0.trans e1) s1 (hE.ext e1) D q
theorem ds_pass : DS m X W ca (.Pass pos) sNil := ⟨_, ps_pass, fun g0 g S σ env e0 hS hE D h => h g σ e0 (Mo.refl g) hS hE⟩
def sBrk : En → M Fl := fun env => M.ret (.bk env)
theorem ds_break : DS m X W ca (.Break pos) sBrk := ⟨_, ps_break, fun g0 g S σ env e0 hS hE D h => h g σ e0 (Mo.refl g) hS hE⟩
def sCnt : En → M Fl := fun env => M.ret (.ct env)
theorem ds_cont : DS m X W ca (.Continue pos) sCnt := ⟨_, ps_continue, fun g0 g S σ env e0 hS hE D h => h g σ e0 (Mo.refl g) hS hE⟩
theorem ds_doc {x : Str} {j : Nat} {p2 : Pos} : DS m X W ca (.Expr (.Constant (.str x) j p2) pos) sNil := ⟨_, ps_doc, fun g0 g S σ env e0 hS hE D h => h g σ e0 (Mo.refl g) hS hE⟩

/-! ### stores to names -/
def sSet (i : Nat) (a : En → M D) : En → M Fl := fun env => liftS (a env) env fun d => M.ret (.nx (env.set i (.f d)))
theorem ds_set {x : Str} {p2 : Pos} (i : Nat) (hN : X.N.Nodup) (hi : X.N[i]? = some x) (hx : L2.Loc X.env.scope x) (ha : DE m X W ca a fa) (hs : swapsWith a (some (.Name x p2)) pos.line X.env = pure false := by rfl)
    (hf : X.fn x = true ∨ X.env.scope.names.lookup x = some .local := by first | exact .inl rfl | exact .inr rfl | assumption) : DS m X W ca (.Assign [.Name x p2] a pos) (sSet i fa) := by
  obtain ⟨t, p, k⟩ := ha
  refine ⟨_, ps_set hN hi hx p hs hf, fun g0 g S σ env e0 hS hE D h => ?_⟩
  exact k g0.H g S σ env hS hE _ (sat_mono (stE e0 hE h) (fun d S1 q g1 v e1 s1 r1 => (show okS m ca W g0 g1 D (.nx (env.set i (.f d))) S1 from q g1 e1) g1 _ (e0.trans e1) (Mo.refl _) s1 ((hE.ext e1).set i r1)) fun _ _ q => q)
/-- a slot takes what is the frame's own -/
theorem EnvOk.setO {H0 : Hp} {g : G} {σ : L2.St} {env : En} (h : EnvOk H0 g σ env) (i : Nat) {q : Addr} {w : EV} (hw : EvOk H0 g (some (.ref q)) w) (new : ∀ (j : Nat) (w' : EV), σ[j]? = some (some (.ref q)) → env[j]? = some w' → w'.own = true → j = i) : EnvOk H0 g (σ.set i (some (.ref q))) (env.set i w) := by
  refine ⟨by simp [h.len], fun j x y a b => ?_, fun j k x y y' ne a b c d' o o' => ?_⟩
  · by_cases hj : i = j
    · subst hj
      have hi : i < env.length := by
        have := (List.getElem?_eq_some_iff.mp b).1
        simpa using this
      rw [List.getElem?_set_self hi] at b
      rw [List.getElem?_set_self (by rw [h.len]; exact hi)] at a
      cases a; cases b
      exact hw
    · rw [List.getElem?_set_ne hj] at a b
      exact h.at_ j x y a b
  · by_cases hj : i = j
    · subst hj
      by_cases hk : i = k
      · exact ne hk
      · have hi : i < env.length := by
          have := (List.getElem?_eq_some_iff.mp c).1
          simpa using this
        rw [List.getElem?_set_self (by rw [h.len]; exact hi)] at a
        rw [List.getElem?_set_ne hk] at b d'
        cases a
        exact hk (new k y' b d' o').symm
    · by_cases hk : i = k
      · subst hk
        have hi : i < env.length := by
          have := (List.getElem?_eq_some_iff.mp d').1
          simpa using this
        rw [List.getElem?_set_self (by rw [h.len]; exact hi)] at b
        rw [List.getElem?_set_ne hj] at a c
        cases b
        exact hj (new j y a c o).symm
      · rw [List.getElem?_set_ne hj] at a c
        rw [List.getElem?_set_ne hk] at b d'
        exact h.apart j k x y y' ne a b c d' o o'
theorem EnvOk.fresh {H0 : Hp} {g : G} {σ : L2.St} {env : En} (h : EnvOk H0 g σ env) {q : Addr} (n : g.H q = none) (j : Nat) (w : EV) (a : σ[j]? = some (some (.ref q))) (b : env[j]? = some w) (o : w.own = true) : False := by
  have r := h.at_ j _ w a b
  cases w with
  | u => cases o
  | x b => cases o
  | f d => cases o
  | o xs => obtain ⟨l, vs, e, h1, _⟩ := r; cases e; rw [n] at h1; cases h1
  | k xs => obtain ⟨l, vs, e, h1, _⟩ := r; cases e; rw [n] at h1; cases h1
def sSetO (i : Nat) (a : En → M (List D)) : En → M Fl := fun env => liftS (a env) env fun d => M.ret (.nx (env.set i (.o d)))
theorem setO_ok {t : TE} {fo : En → M (List D)} {i : Nat} (k : ∀ H0 g S σ env, SOk ca g S → EnvOk H0 g σ env → ∀ Q : VK, (fo env S).sat (okO m ca g Q) (exE m ca W g σ) → t σ g.H Q) :
    ∀ g0 g S σ env, Ext m g0 g → SOk ca g S → EnvOk g0.H g σ env → ∀ D : Ends, (sSetO i fo env S).sat (okS m ca W g0 g D) noX → tAsg t (gName i) D σ g.H := fun g0 g S σ env e0 hS hE D h => by
  refine k g0.H g S σ env hS hE _ (sat_mono (stE e0 hE h) (fun d S1 q g1 l vs e1 s1 n h1 h2 h3 r => ?_) fun _ _ q => q)
  refine (show okS m ca W g0 g1 D (.nx (env.set i (.o d))) S1 from q g1 e1) g1 _ (e0.trans e1) (Mo.refl _) s1 ((hE.ext e1).setO i ⟨l, vs, rfl, h1, r, h2, h3, e0.dom _ n⟩ fun j w' a b o => ?_)
  exact (hE.fresh n j w' a b o).elim
theorem ds_setO {x : Str} {p2 : Pos} {fo : En → M (List D)} (i : Nat) (hN : X.N.Nodup) (hi : X.N[i]? = some x) (hx : L2.Loc X.env.scope x) (ha : DO m X W ca a fo) (hs : swapsWith a (some (.Name x p2)) pos.line X.env = pure false := by rfl)
    (hf : X.fn x = true ∨ X.env.scope.names.lookup x = some .local := by first | exact .inl rfl | exact .inr rfl | assumption) : DS m X W ca (.Assign [.Name x p2] a pos) (sSetO i fo) := by
  obtain ⟨t, p, k⟩ := ha
  exact ⟨_, ps_set hN hi hx p hs hf, setO_ok k⟩
/-- the frame's own list in slot i becomes data -/
def fzE (i : Nat) (env : En) : En := match env[i]? with
  | some (.o xs) => env.set i (.f (.lst xs))
  | some (.k xs) => env.set i (.f (.dct xs))
  | _ => env
def sFz (i : Nat) (f : En → M Fl) : En → M Fl := fun env => f (fzE i env)
theorem fz_ok {g0 g : G} {S : Store} {σ : L2.St} {env : En} (i : Nat) (e0 : Ext m g0 g) (hS : SOk ca g S) (hE : EnvOk g0.H g σ env) : ∃ g', g'.H = g.H ∧ Ext m g0 g' ∧ Mo m g g' ∧ SOk ca g' S ∧ EnvOk g0.H g' σ (fzE i env) := by
  have key : ∀ (q : Addr) (o : HO) (d : D) (w : EV), env[i]? = some w → w.own = true → σ[i]? = some (some (.ref q)) → g.H q = some o → OwnAt g0.H g q → Rp (upd g.F q o) g.p (.ref q) d →
      ∃ g', g'.H = g.H ∧ Ext m g0 g' ∧ Mo m g g' ∧ SOk ca g' S ∧ EnvOk g0.H g' σ (env.set i (.f d)) := fun q o d w ew ow es hq hn hr => by
    have sm : Same g.F (g.fr q o).F := Same.upF hn.out
    refine ⟨g.fr q o, rfl, ext_fr e0 hn.new hn.out, ⟨sm, PiLe.refl _, fun _ h => h, fun _ => ⟨rfl, fun _ _ _ _ h => h⟩, fun _ _ _ h => h⟩, sok_fr hS hq hn.out hn.nop, ?_⟩
    have hi : i < env.length := (List.getElem?_eq_some_iff.mp ew).1
    refine ⟨by simp [hE.len], fun j x y a b => ?_, fun j k x y y' ne a b c d' o1 o2 => ?_⟩
    · by_cases hj : i = j
      · subst hj
        rw [List.getElem?_set_self hi] at b
        cases b
        rw [es] at a; cases a
        exact ⟨_, rfl, hr⟩
      · rw [List.getElem?_set_ne hj] at b
        have z := hE.at_ j x y a b
        have keep : ∀ l, y.own = true → x = some (.ref l) → l ≠ q := fun l oy ex z => by
          subst z; subst ex
          exact hE.apart i j _ w y hj es a ew b ow oy
        cases y with
        | u => trivial
        | x b => exact z
        | f d => obtain ⟨v, h1, h2⟩ := z; exact ⟨v, h1, Rp.mono sm (PiLe.refl _) h2⟩
        | o xs =>
          obtain ⟨l, vs, h1, h2, h3, h4⟩ := z
          refine ⟨l, vs, h1, h2, RpA.mono sm (PiLe.refl _) h3, ?_, h4.nop, h4.new⟩
          show upd g.F q o l = none
          rw [upd_ne (keep l rfl h1)]; exact h4.out
        | k xs =>
          obtain ⟨l, vs, h1, h2, h3, h4⟩ := z
          refine ⟨l, vs, h1, h2, RpK.mono sm (PiLe.refl _) h3, ?_, h4.nop, h4.new⟩
          show upd g.F q o l = none
          rw [upd_ne (keep l rfl h1)]; exact h4.out
    · have nj : i ≠ j := fun z => by
        subst z
        rw [List.getElem?_set_self hi] at c
        cases c; cases o1
      have nk : i ≠ k := fun z => by
        subst z
        rw [List.getElem?_set_self hi] at d'
        cases d'; cases o2
      rw [List.getElem?_set_ne nj] at c
      rw [List.getElem?_set_ne nk] at d'
      exact hE.apart j k x y y' ne a b c d' o1 o2
  have same : ∃ g', g'.H = g.H ∧ Ext m g0 g' ∧ Mo m g g' ∧ SOk ca g' S ∧ EnvOk g0.H g' σ env := ⟨g, rfl, e0, Mo.refl _, hS, hE⟩
  unfold fzE
  cases e : env[i]? with
  | none => exact same
  | some w =>
    cases w with
    | u => exact same
    | x b => exact same
    | f d => exact same
    | o xs =>
      obtain ⟨v, h1, q, vs, rfl, h3, h4, h5⟩ := hE.get e
      exact key q _ _ _ e rfl h1 h3 h5 (rp_lst h5.out h4)
    | k xs =>
      obtain ⟨v, h1, q, vs, rfl, h3, h4, h5⟩ := hE.get e
      exact key q _ _ _ e rfl h1 h3 h5 (rp_dct h5.out h4)
theorem dss_fz (i : Nat) {sts : List Stmt} (h : DSs m X W ca sts f) : DSs m X W ca sts (sFz i f) := by
  obtain ⟨t, p, k⟩ := h
  refine ⟨t, p, fun g0 g S σ env e0 hS hE D h => ?_⟩
  obtain ⟨g', h1, h2, h3, h4, h5⟩ := fz_ok i e0 hS hE
  rw [← h1]
  exact k g0 g' S σ _ h2 h4 h5 D (sat_mono h (fun _ _ q => q.mono h3) fun _ _ q => q)
end
end Dn

namespace Dn
open PySem L2

/-! ### what is walked -/
def Rq (q m : Bool) (g g' : G) : Prop := match q with
  | true => Mo m g g'
  | false => Ext m g g'
theorem Rq.mo {q m : Bool} {g g' : G} (h : Rq q m g g') : Mo m g g' := by
  cases q with
  | true => exact h
  | false => exact Ext.mo h
def ItOk (q m : Bool) (ca : Ct) (g : G) (J : It) (ds : List D) : Prop :=
  ∀ g' S, Rq q m g g' → SOk ca g' S → ∀ i, (∀ d, ds[i]? = some d → J.go i g'.H ∧ ∀ x H', J.yld i g'.H x H' → H' = g'.H ∧ Rp g'.F g'.p x d) ∧ (ds.length ≤ i → J.stop i g'.H)
def DI (q m : Bool) (X : Cx) (W : WX) (ca : Ct) (e : Expr) (f : En → M (List D)) : Prop :=
  ∃ wi : TI, (∀ tg, PI X tg e wi) ∧ ∀ H0 g S σ env, SOk ca g S → EnvOk H0 g σ env → ∀ R : It → Hp → Prop,
    (f env S).sat (fun ds S' => ∀ g' J, Ext m g g' → SOk ca g' S' → ItOk q m ca g' J ds → R J g'.H) (exE m ca W g σ) → wi σ g.H R
theorem itl_ok {q m : Bool} {ca : Ct} {K : PySem.W.Frag} {g : G} {a : Addr} {vs : List V} {ds : List D} (h : ∀ g' S, Rq q m g g' → SOk ca g' S → SqL K g'.H a vs) (r : RpA g.F g.p vs ds) : ItOk q m ca g (Itl K a) ds := fun g' S e hS i => by
  have h' := h g' S e hS
  have r' := e.mo.rpA r
  refine ⟨fun d hd => ?_, fun hl => ⟨vs, h', by rw [r'.length]; exact hl⟩⟩
  obtain ⟨v, h1, h2⟩ := r'.get i hd
  refine ⟨⟨vs, v, h', h1⟩, fun x H' y => ?_⟩
  obtain ⟨y1, y2⟩ := y
  have := y2 vs h'
  rw [h1] at this; cases this
  exact ⟨y1, h2⟩
theorem itt_ok {q m : Bool} {ca : Ct} {K : PySem.W.Frag} {g : G} {a : Addr} {vs : List V} {ds : List D} (h : g.F a = some (.tup vs)) (r : RpA g.F g.p vs ds) : ItOk q m ca g (Itt K a) ds := fun g' S e hS i => by
  have h' : SqT K g'.H a vs := SqT.of (hS.same _ _ (e.mo.same _ _ h))
  have r' := e.mo.rpA r
  refine ⟨fun d hd => ?_, fun hl => ⟨vs, h', by rw [r'.length]; exact hl⟩⟩
  obtain ⟨v, h1, h2⟩ := r'.get i hd
  refine ⟨⟨vs, v, h', h1⟩, fun x H' y => ?_⟩
  obtain ⟨y1, y2⟩ := y
  have := y2 vs h'
  rw [h1] at this; cases this
  exact ⟨y1, h2⟩
def rng (lo : Int) (n : Nat) : List D := (List.range n).map fun i => .int (lo + (i : Nat))
def rngC (lo c : Int) (n : Nat) : List D := (List.range n).map fun i => .int (lo + (i : Nat) * c)
theorem rng_get {lo : Int} {n i : Nat} {d : D} (h : (rng lo n)[i]? = some d) : i < n ∧ d = .int (lo + (i : Nat)) := by
  unfold rng at h
  rw [List.getElem?_map] at h
  by_cases hi : i < n
  · rw [List.getElem?_range hi] at h; cases h; exact ⟨hi, rfl⟩
  · rw [List.getElem?_eq_none (by simpa using hi)] at h; cases h
theorem rngC_get {lo c : Int} {n i : Nat} {d : D} (h : (rngC lo c n)[i]? = some d) : i < n ∧ d = .int (lo + (i : Nat) * c) := by
  unfold rngC at h
  rw [List.getElem?_map] at h
  by_cases hi : i < n
  · rw [List.getElem?_range hi] at h; cases h; exact ⟨hi, rfl⟩
  · rw [List.getElem?_eq_none (by simpa using hi)] at h; cases h
theorem itr_ok {q m : Bool} {ca : Ct} {g : G} {lo : Int} {n : Nat} : ItOk q m ca g (Itr lo n) (rng lo n) := fun g' S e hS i => by
  refine ⟨fun d hd => ?_, fun hl => show n ≤ i by simpa [rng] using hl⟩
  obtain ⟨h1, rfl⟩ := rng_get hd
  refine ⟨h1, fun x H' y => ?_⟩
  obtain ⟨y1, rfl⟩ := y
  exact ⟨y1, .int _⟩
theorem itc_ok {q m : Bool} {ca : Ct} {g : G} {lo c : Int} {n : Nat} : ItOk q m ca g (Itc lo c n) (rngC lo c n) := fun g' S e hS i => by
  refine ⟨fun d hd => ?_, fun hl => show n ≤ i by simpa [rngC] using hl⟩
  obtain ⟨h1, rfl⟩ := rngC_get hd
  refine ⟨h1, fun x H' y => ?_⟩
  obtain ⟨y1, rfl⟩ := y
  exact ⟨y1, .int _⟩
def signsD (s : Str) : List D := s.cps.toList.map fun c => .str ⟨#[c]⟩
theorem its_ok {q m : Bool} {ca : Ct} {g : G} {s : Str} : ItOk q m ca g (Its s) (signsD s) := fun g' S e hS i => by
  refine ⟨fun d hd => ?_, fun hl => show s.cps.size ≤ i by simpa [signsD] using hl⟩
  unfold signsD at hd
  rw [List.getElem?_map] at hd
  cases e1 : s.cps.toList[i]? with
  | none => rw [e1] at hd; cases hd
  | some c =>
    rw [e1] at hd; cases hd
    have e2 : s.cps[i]? = some c := by simpa using e1
    refine ⟨(Array.getElem?_eq_some_iff.mp e2).1, fun x H' y => ?_⟩
    obtain ⟨y1, c', h1, rfl⟩ := y
    rw [e2] at h1; cases h1
    exact ⟨y1, .str _⟩
section
variable {q m : Bool} {X : Cx} {W : WX} {ca : Ct} {a b c e : Expr} {fa fb fc : En → M D} {pos : Pos}
def iL (a : En → M D) : En → M (List D) := fun env => M.bind (a env) fun x => match x with
  | .lst xs => M.ret xs
  | .scr ns => M.ret (ns.map D.int)
  | _ => M.bad
theorem seqI {α β : Type} {c : M α} {k : α → M β} {S : Store} {g : G} {σ : L2.St} {P : G → β → Store → Prop} (hP : ∀ g g' a S, Ext m g g' → P g a S → P g' a S) (h : (M.bind c k S).sat (P g) (exE m ca W g σ)) :
    (c S).sat (fun a S' => ∀ g', Ext m g g' → (k a S').sat (P g') (exE m ca W g' σ)) (exE m ca W g σ) :=
  sat_mono (sat_bind h) (fun a S' h g' e => sat_mono h (fun d S2 q => hP _ _ _ _ e q) fun c S2 q => q.mono e) fun _ _ q => q
abbrev itP (q m : Bool) (ca : Ct) (R : It → Hp → Prop) : G → List D → Store → Prop := fun g ds S' => ∀ g' J, Ext m g g' → SOk ca g' S' → ItOk q m ca g' J ds → R J g'.H
theorem itP.mono {R : It → Hp → Prop} : ∀ g g' (ds : List D) S, Ext m g g' → itP q m ca R g ds S → itP q m ca R g' ds S := fun g g' ds S e h g2 J e2 => h g2 J (e.trans e2)
theorem di_list (ha : DE m X W ca a fa) (hK : ca.K = X.K := by rfl) : DI q m X W ca a (iL fa) := by
  obtain ⟨t, p, k⟩ := ha
  refine ⟨_, fun tg => pi_list p, fun H0 g S σ env hS hE R h => ?_⟩
  refine k H0 g S σ env hS hE _ (sat_mono (seqI (P := itP q m ca R) itP.mono h) (fun x S1 z g1 v e1 s1 r1 => ?_) fun _ _ q => q)
  have z := z g1 e1
  cases r1 with
  | lst h1 t1 => exact ⟨_, rfl, ⟨_, SqL.of (s1.same _ _ h1)⟩, (show itP q m ca R g1 _ S1 from z) g1 _ (Ext.refl _) s1 (itl_ok (fun g' S e hS => SqL.of (hS.same _ _ (e.mo.same _ _ h1))) t1)⟩
  | scr h1 =>
    have hq := (s1.sc _ _ h1).sq
    rw [hK] at hq
    exact ⟨_, rfl, ⟨_, hq⟩, (show itP q m ca R g1 _ S1 from z) g1 _ (Ext.refl _) s1 (itl_ok (fun g' S e hS => by rw [← hK]; exact (hS.sc _ _ (e.mo.obs.2 _ _ h1)).sq) (RpA.ints _))⟩
  | _ => exact z.elim
/-- a list that is read for now: for comprehensions -/
theorem di_listB (ha : DB m X W ca a fa) (hK : ca.K = X.K := by rfl) : DI false m X W ca a (iL fa) := by
  obtain ⟨t, p, k⟩ := ha
  refine ⟨_, fun tg => pi_list p, fun H0 g S σ env hS hE R h => ?_⟩
  refine k H0 g S σ env hS hE _ (sat_mono (seqI (P := itP false m ca R) itP.mono h) (fun x S1 z g1 v e1 s1 r1 => ?_) fun _ _ q => q)
  have z := z g1 e1
  cases x with
  | lst xs =>
    obtain ⟨a, vs, rfl, h1, h2⟩ := r1.lst s1
    refine ⟨a, rfl, ⟨vs, SqL.of h1⟩, (show itP false m ca R g1 xs S1 from z) g1 _ (Ext.refl _) s1 (itl_ok (fun g' S e hS => ?_) h2)⟩
    have e : Ext m g1 g' := e
    rcases r1 with r1 | ⟨q, vs', xs', h3, h4, h5, h6, h7⟩ | ⟨_, _, _, _, h4, _⟩
    · cases r1 with
      | lst y1 y2 =>
        have := s1.same _ _ y1
        rw [h1] at this; cases this
        exact SqL.of (hS.same _ _ (e.same _ _ y1))
    · cases h3; cases h4
      rw [h1] at h5; cases h5
      exact SqL.of (h6.ext h1 hS.out e).2
    · cases h4
  | scr ns =>
    have r := r1.h s1
    rcases r1 with r1 | ⟨_, _, _, _, h, _⟩ | ⟨_, _, _, _, h, _⟩
    · cases r1 with
      | scr h1 =>
        have hq := (s1.sc _ _ h1).sq
        rw [hK] at hq
        exact ⟨_, rfl, ⟨_, hq⟩, (show itP false m ca R g1 _ S1 from z) g1 _ (Ext.refl _) s1 (itl_ok (fun g' S e hS => by rw [← hK]; exact (hS.sc _ _ ((Rq.mo e).obs.2 _ _ h1)).sq) (RpA.ints _))⟩
    · cases h
    · cases h
  | _ => exact z.elim
def iT (a : En → M D) : En → M (List D) := fun env => M.bind (a env) fun x => match x with
  | .tup xs => M.ret xs
  | _ => M.bad
theorem di_tup (ha : DE m X W ca a fa) : DI q m X W ca a (iT fa) := by
  obtain ⟨t, p, k⟩ := ha
  refine ⟨_, fun tg => pi_tup p, fun H0 g S σ env hS hE R h => ?_⟩
  refine k H0 g S σ env hS hE _ (sat_mono (seqI (P := itP q m ca R) itP.mono h) (fun x S1 z g1 v e1 s1 r1 => ?_) fun _ _ q => q)
  have z := z g1 e1
  cases r1 with
  | tup h1 t1 => exact ⟨_, rfl, ⟨_, SqT.of (s1.same _ _ h1)⟩, (show itP q m ca R g1 _ S1 from z) g1 _ (Ext.refl _) s1 (itt_ok h1 t1)⟩
  | _ => exact z.elim
def iS (a : En → M D) : En → M (List D) := fun env => M.bind (a env) fun x => match x with
  | .str s => M.ret (signsD s)
  | _ => M.bad
theorem di_str (ha : DE m X W ca a fa) : DI q m X W ca a (iS fa) := by
  obtain ⟨t, p, k⟩ := ha
  refine ⟨_, fun tg => pi_str p, fun H0 g S σ env hS hE R h => ?_⟩
  refine k H0 g S σ env hS hE _ (sat_mono (seqI (P := itP q m ca R) itP.mono h) (fun x S1 z g1 v e1 s1 r1 => ?_) fun _ _ q => q)
  have z := z g1 e1
  cases r1 with
  | str s => exact ⟨s, rfl, (show itP q m ca R g1 _ S1 from z) g1 _ (Ext.refl _) s1 its_ok⟩
  | _ => exact z.elim
def iR1 (a : En → M D) : En → M (List D) := fun env => M.bind (a env) fun x => match x with
  | .int n => if -1000000 ≤ n ∧ n ≤ 1000000 then M.ret (rng 0 n.toNat) else M.bad
  | _ => M.bad
def iR2 (a b : En → M D) : En → M (List D) := fun env => M.bind (a env) fun x => M.bind (b env) fun y => match x, y with
  | .int i, .int j => if -1000000 ≤ i ∧ i ≤ 1000000 ∧ -1000000 ≤ j ∧ j ≤ 1000000 then M.ret (rng i (j - i).toNat) else M.bad
  | _, _ => M.bad
theorem di_range1 {p : Pos} (ha : DE m X W ca a fa) (hg : Gl X "range" := by rfl) (hm : X.mg "range" = none := by assumption) (hs : starEach [a] X.env = [(false, eval a X.env)] := by rfl) : DI q m X W ca (.Call (.Name "range" p) [a] [] pos) (iR1 fa) := by
  obtain ⟨t, pa, k⟩ := ha
  refine ⟨_, fun tg => pi_range1 hg hm (pa_cons pa pa_nil hs) hs, fun H0 g S σ env hS hE R h => ?_⟩
  refine k H0 g S σ env hS hE _ (sat_mono (seqI (P := itP q m ca R) itP.mono h) (fun x S1 z g1 v e1 s1 r1 => ?_) fun _ _ q => q)
  have z := z g1 e1
  cases x with
  | int n =>
    cases r1
    dsimp only at z
    by_cases c : -1000000 ≤ n ∧ n ≤ 1000000
    · rw [if_pos c] at z
      exact ⟨n, rfl, by omega, by omega, (show itP q m ca R g1 _ S1 from z) g1 _ (Ext.refl _) s1 itr_ok⟩
    · rw [if_neg c] at z; exact z.elim
  | _ => exact z.elim
theorem di_range2 {p : Pos} (ha : DE m X W ca a fa) (hb : DE m X W ca b fb) (hg : Gl X "range" := by rfl) (hm : X.mg "range" = none := by assumption) (hs : starEach [a, b] X.env = [(false, eval a X.env), (false, eval b X.env)] := by rfl) (hs2 : starEach [b] X.env = [(false, eval b X.env)] := by rfl) :
    DI q m X W ca (.Call (.Name "range" p) [a, b] [] pos) (iR2 fa fb) := by
  obtain ⟨t, pa, k⟩ := ha
  obtain ⟨t2, pb, k2⟩ := hb
  refine ⟨_, fun tg => pi_range2 hg hm (pa_cons pa (pa_cons pb pa_nil hs2) (by rw [hs, hs2])) hs hs2, fun H0 g S σ env hS hE R h => ?_⟩
  refine k H0 g S σ env hS hE _ (sat_mono (seqI (P := itP q m ca R) itP.mono h) (fun x S1 z g1 v e1 s1 r1 => ?_) fun _ _ q => q)
  refine k2 H0 g1 S1 σ env s1 (hE.ext e1) _ (sat_mono (seqI (P := itP q m ca R) itP.mono (z g1 e1)) (fun y S2 z g2 u e2 s2 r2 => ?_) fun _ _ q => q)
  have z := z g2 e2
  cases x with
  | int i =>
    cases y with
    | int j =>
      cases r1; cases r2
      dsimp only at z
      by_cases c : -1000000 ≤ i ∧ i ≤ 1000000 ∧ -1000000 ≤ j ∧ j ≤ 1000000
      · rw [if_pos c] at z
        exact ⟨i, j, rfl, by omega, (show itP q m ca R g2 _ S2 from z) g2 _ (Ext.refl _) s2 itr_ok⟩
      · rw [if_neg c] at z; exact z.elim
    | _ => exact z.elim
  | _ => exact z.elim
def iR3 (a b c : En → M D) : En → M (List D) := fun env => M.bind (a env) fun x => M.bind (b env) fun y => M.bind (c env) fun z => match x, y, z with
  | .int i, .int j, .int k => if k ≠ 0 ∧ k.natAbs < 1073741824 ∧ Builtin.Range.small i j k = true ∧ 0 ≤ Builtin.Range.rangeSize i j k then M.ret (rngC i k (Builtin.Range.rangeSize i j k).toNat) else M.bad
  | _, _, _ => M.bad
theorem di_range3 {p : Pos} (ha : DE m X W ca a fa) (hb : DE m X W ca b fb) (hc : DE m X W ca c fc) (hg : Gl X "range" := by rfl) (hm : X.mg "range" = none := by assumption) (hs : starEach [a, b, c] X.env = (false, eval a X.env) :: starEach [b, c] X.env := by rfl) (hs2 : starEach [b, c] X.env = (false, eval b X.env) :: starEach [c] X.env := by rfl) (hs3 : starEach [c] X.env = (false, eval c X.env) :: starEach [] X.env := by rfl)
    (hpi : ∀ (tg : Expr) (ta : TA), PA X [a, b, c] ta → PI X tg (.Call (.Name "range" p) [a, b, c] [] pos) (iRng3 ta) := by exact fun _ _ h => pi_range3 (by rfl) (by assumption) h) :
    DI q m X W ca (.Call (.Name "range" p) [a, b, c] [] pos) (iR3 fa fb fc) := by
  obtain ⟨t, pa, k⟩ := ha
  obtain ⟨t2, pb, k2⟩ := hb
  obtain ⟨t3, pc, k3⟩ := hc
  refine ⟨_, fun tg => hpi tg _ (pa_cons pa (pa_cons pb (pa_cons pc pa_nil hs3) hs2) hs), fun H0 g S σ env hS hE R h => ?_⟩
  refine k H0 g S σ env hS hE _ (sat_mono (seqI (P := itP q m ca R) itP.mono h) (fun x S1 z g1 v e1 s1 r1 => ?_) fun _ _ q => q)
  refine k2 H0 g1 S1 σ env s1 (hE.ext e1) _ (sat_mono (seqI (P := itP q m ca R) itP.mono (z g1 e1)) (fun y S2 z g2 u e2 s2 r2 => ?_) fun _ _ q => q)
  refine k3 H0 g2 S2 σ env s2 (hE.ext (e1.trans e2)) _ (sat_mono (seqI (P := itP q m ca R) itP.mono (z g2 e2)) (fun w S3 z g3 u3 e3 s3 r3 => ?_) fun _ _ q => q)
  have z := z g3 e3
  cases x with
  | int i =>
    cases y with
    | int j =>
      cases w with
      | int l =>
        cases r1; cases r2; cases r3
        dsimp only at z
        by_cases c : l ≠ 0 ∧ l.natAbs < 1073741824 ∧ Builtin.Range.small i j l = true ∧ 0 ≤ Builtin.Range.rangeSize i j l
        · rw [if_pos c] at z
          exact ⟨i, j, l, (Builtin.Range.rangeSize i j l).toNat, rfl, ⟨c.1, c.2.1, c.2.2.1, by omega⟩, (show itP q m ca R g3 _ S3 from z) g3 _ (Ext.refl _) s3 itc_ok⟩
        · rw [if_neg c] at z; exact z.elim
      | _ => exact z.elim
    | _ => exact z.elim
  | _ => exact z.elim
end

/-! ### targets -/
theorem wipe_at {σ : L2.St} {i : Nat} : ∀ {vs : List Nat}, i ∈ vs → i < σ.length → (wipe σ vs)[i]? = some none
  | v :: vs, h, hi => by
    unfold wipe
    by_cases e : v = i
    · subst e
      rw [List.getElem?_set_self (by rw [wipe_length]; exact hi)]
    · rw [List.getElem?_set_ne e]
      exact wipe_at ((List.mem_cons.mp h).resolve_left fun z => e z.symm) hi
theorem wipe_not {σ : L2.St} {i : Nat} : ∀ {vs : List Nat}, i ∉ vs → (wipe σ vs)[i]? = σ[i]?
  | [], _ => rfl
  | v :: vs, h => by
    unfold wipe
    rw [List.getElem?_set_ne (fun e => h (by rw [e]; exact List.mem_cons_self))]
    exact wipe_not fun z => h (List.mem_cons_of_mem _ z)
theorem wipe_ext {σ σ' : L2.St} {vs : List Nat} (hl : σ.length = σ'.length) (h : ∀ i, i ∉ vs → σ[i]? = σ'[i]?) : wipe σ vs = wipe σ' vs := by
  apply List.ext_getElem?
  intro i
  by_cases hi : i ∈ vs
  · by_cases hlt : i < σ.length
    · rw [wipe_at hi hlt, wipe_at hi (by rw [← hl]; exact hlt)]
    · rw [List.getElem?_eq_none (by rw [wipe_length]; omega), List.getElem?_eq_none (by rw [wipe_length]; omega)]
  · rw [wipe_not hi, wipe_not hi, h i hi]
theorem wipe_set {σ : L2.St} {vs : List Nat} {i : Nat} {x : Option V} (h : i ∈ vs) : wipe (σ.set i x) vs = wipe σ vs :=
  wipe_ext (by simp) fun j hj => List.getElem?_set_ne fun e => hj (by rw [← e]; exact h)
theorem wipe_wipe {σ : L2.St} {vs : List Nat} : wipe (wipe σ vs) vs = wipe σ vs := wipe_ext (wipe_length _ _) fun _ hj => wipe_not hj
def DG (X : Cx) (tg : Expr) (b : D → En → Option En) (ks : List Nat) : Prop :=
  ∃ t : TG, PG X tg t ∧ ∀ H0 g σ env v d env', Same g.F g.H → EnvOk H0 g σ env → Rp g.F g.p v d → b d env = some env' → ∀ Q : L2.St → Hp → Prop,
    (∀ σ', EnvOk H0 g σ' env' → (∀ vs, (∀ k ∈ ks, k ∈ vs) → wipe σ' vs = wipe σ vs) → Q σ' g.H) → t v σ g.H Q
def DGs (X : Cx) (tgs : List Expr) (b : List D → En → Option En) (ks : List Nat) : Prop :=
  ∃ t : TGs, PGs X tgs t ∧ ∀ H0 g σ env vs ds env', Same g.F g.H → EnvOk H0 g σ env → RpA g.F g.p vs ds → b ds env = some env' → ∀ Q : L2.St → Hp → Prop,
    (∀ σ', EnvOk H0 g σ' env' → (∀ vs, (∀ k ∈ ks, k ∈ vs) → wipe σ' vs = wipe σ vs) → Q σ' g.H) → t vs σ g.H Q
def bName (i : Nat) : D → En → Option En := fun d env => some (env.set i (.f d))
def bNil : List D → En → Option En
  | [], env => some env
  | _, _ => none
def bCons (b : D → En → Option En) (r : List D → En → Option En) : List D → En → Option En
  | d :: ds, env => (b d env).bind (r ds)
  | [], _ => none
def bTup (b : List D → En → Option En) : D → En → Option En
  | .tup ds, env => b ds env
  | _, _ => none
section
variable {X : Cx} {pos : Pos}
theorem dg_name {x : Str} (i : Nat) (hN : X.N.Nodup) (hi : X.N[i]? = some x) (hx : L2.Loc X.env.scope x) (hf : X.fn x = true ∨ X.env.scope.names.lookup x = some .local := by first | exact .inl rfl | exact .inr rfl | assumption) : DG X (.Name x pos) (bName i) [i] :=
  ⟨_, pg_name hN hi hx hf, fun H0 g σ env v d env' sm hE r e Q k => by
    cases e
    exact k _ (hE.set i r) fun vs h => wipe_set (h i (by simp))⟩
theorem dgs_nil : DGs X [] bNil [] := ⟨_, pgs_nil, fun H0 g σ env vs ds env' sm hE r e Q k => by
  cases r with
  | nil => cases e; exact ⟨rfl, k σ hE fun _ _ => rfl⟩
  | cons _ _ => cases e⟩
theorem dgs_cons {e : Expr} {es : List Expr} {b : D → En → Option En} {r : List D → En → Option En} {ks js : List Nat} (h1 : DG X e b ks) (h2 : DGs X es r js)
    (hs : (assignEach (e :: es) X.env).map (·.2) = assign e X.env :: (assignEach es X.env).map (·.2) := by rfl) : DGs X (e :: es) (bCons b r) (ks ++ js) := by
  obtain ⟨t, p, k⟩ := h1
  obtain ⟨t2, p2, k2⟩ := h2
  refine ⟨_, pgs_cons p p2 hs, fun H0 g σ env vs ds env' sm hE ra eq Q q => ?_⟩
  cases ra with
  | nil => cases eq
  | @cons v d vs ds rv rs =>
    have eq : (b d env).bind (r ds) = some env' := eq
    cases e1 : b d env with
    | none => rw [e1] at eq; cases eq
    | some env1 =>
      rw [e1] at eq
      refine ⟨v, vs, rfl, k H0 g σ env v d env1 sm hE rv e1 _ fun σ1 hE1 w1 => ?_⟩
      exact k2 H0 g σ1 env1 vs ds env' sm hE1 rs eq Q fun σ2 hE2 w2 => q σ2 hE2 fun us hu => (w2 us fun k hk => hu k (List.mem_append_right _ hk)).trans (w1 us fun k hk => hu k (List.mem_append_left _ hk))
theorem dg_tup {es : List Expr} {k : Nat} {b : List D → En → Option En} {ks : List Nat} {n : Nat} (hc : X.calm = true) (h : DGs X es b ks)
    (hlen : ∀ ds env env', b ds env = some env' → ds.length = n) (hn : (assignEach es X.env).length = n := by rfl) (hst : (assignEach es X.env).findIdx? (·.1) = none := by rfl) : DG X (.Tuple es k pos) (bTup b) ks := by
  obtain ⟨t, p, q⟩ := h
  refine ⟨_, pg_tup hc p hn hst, fun H0 g σ env v d env' sm hE r e Q k => ?_⟩
  cases r with
  | tup h1 t1 => exact ⟨_, _, rfl, SqT.of (sm _ _ h1), by rw [t1.length]; exact hlen _ _ _ e, q H0 g σ env _ _ env' sm hE t1 e Q k⟩
  | _ => cases e
end

/-! ### for -/
def forD (body : En → M Fl) (b : D → En → Option En) : List D → En → M Fl
  | [], env => M.ret (.nx env)
  | d :: ds, env => match b d env with
    | none => M.bad
    | some env1 => M.bind (body env1) fun fl => match fl with
      | .nx e => forD body b ds e
      | .ct e => forD body b ds e
      | .bk e => M.ret (.nx e)
      | o => M.ret o
def sFor (it : En → M (List D)) (b : D → En → Option En) (body : En → M Fl) : En → M Fl := fun env => liftS (it env) env fun ds => forD body b ds env
section
variable {m : Bool} {X : Cx} {W : WX} {ca : Ct} {pos : Pos}
theorem ds_for {tg iter : Expr} {body : List Stmt} {it : En → M (List D)} {b : D → En → Option En} {ks : List Nat} {f : En → M Fl} (hp : PassesOwn (model X.prog X.w) X.A X.env X.xe) (hc : X.calm = true) (hi : DI true m X W ca iter it) (hg : DG X tg b ks) (hb : DSs m X W ca body f)
    (hs : ∀ x, foldedSetIterable iter X.env x = pure x := by intro _; rfl) : DS m X W ca (.For tg iter body [] pos) (sFor it b f) := by
  obtain ⟨wi, pi, ki⟩ := hi
  obtain ⟨tg', pg, kg⟩ := hg
  obtain ⟨tb, pb, kb⟩ := hb
  refine ⟨_, ps_for hp hc (pi tg) pg pb hs, fun g0 g S σ env e0 hS hE D h => ?_⟩
  refine ki g0.H g S σ env hS hE _ (sat_mono (stE e0 hE h) (fun ds S1 z g1 J e1 s1 ok => ?_) fun _ _ q => q)
  have z := z g1 e1
  refine ⟨fun i n σ' H' => n = ds.length - i ∧ i ≤ ds.length ∧ ∃ g' S' env', H' = g'.H ∧ Ext m g0 g' ∧ Mo m g1 g' ∧ SOk ca g' S' ∧ EnvOk g0.H g' σ' env' ∧ (forD f b (ds.drop i) env' S').sat (okS m ca W g0 g' D) noX,
    ⟨ds.length, by simp, Nat.zero_le _, g1, S1, env, rfl, e0.trans e1, Mo.refl _, s1, hE.ext e1, z⟩, ?_⟩
  rintro i n σ' H' ⟨rfl, hi, g', S', env', rfl, e2, m2, s2, hE2, k⟩
  obtain ⟨okg, oks⟩ := ok g' S' m2 s2 i
  by_cases hlt : i < ds.length
  · have hd : ds.drop i = ds[i] :: ds.drop (i + 1) := List.drop_eq_getElem_cons hlt
    rw [hd] at k
    obtain ⟨go, yl⟩ := okg ds[i] (List.getElem?_eq_getElem hlt)
    refine .inr ⟨go, fun σ'' H'' => ∃ g'' S'' env'', H'' = g''.H ∧ Ext m g0 g'' ∧ Mo m g1 g'' ∧ SOk ca g'' S'' ∧ EnvOk g0.H g'' σ'' env'' ∧ (forD f b (ds.drop (i + 1)) env'' S'').sat (okS m ca W g0 g'' D) noX, fun σ'' H'' w => ⟨ds.length - (i + 1), by omega, rfl, hlt, w⟩, fun x H'' y => ?_⟩
    obtain ⟨rfl, rx⟩ := yl x H'' y
    unfold forD at k
    cases eb : b ds[i] env' with
    | none => rw [eb] at k; exact k.elim
    | some env1 =>
      rw [eb] at k
      refine kg g0.H g' σ' env' x _ env1 s2.same hE2 rx eb _ fun σ1 hE1 _ => ?_
      refine kb g0 g' S' σ1 env1 e2 s2 hE1 _ (sat_mono (sat_bind k) (fun fl S3 q => ?_) fun _ _ q => q)
      have nxt : ∀ {e : En}, (forD f b (ds.drop (i + 1)) e S3).sat (okS m ca W g0 g' D) noX → ∀ g3 σ3, Ext m g0 g3 → Mo m g' g3 → SOk ca g3 S3 → EnvOk g0.H g3 σ3 e →
          ∃ g'' S'' env'', g3.H = g''.H ∧ Ext m g0 g'' ∧ Mo m g1 g'' ∧ SOk ca g'' S'' ∧ EnvOk g0.H g'' σ3 env'' ∧ (forD f b (ds.drop (i + 1)) env'' S'').sat (okS m ca W g0 g'' D) noX := fun {e} q g3 σ3 a b c d =>
        ⟨g3, S3, e, rfl, a, m2.trans b, c, d, sat_mono q (fun _ _ q => q.mono b) fun _ _ q => q⟩
      cases fl with
      | nx e => exact fun g3 σ3 a b c d => nxt q g3 σ3 a b c d
      | ct e => exact fun g3 σ3 a b c d => nxt q g3 σ3 a b c d
      | bk e => exact q
      | rt d => exact q
      | rtO d => exact q
      | ex c e => exact q
  · have hi' : i = ds.length := by omega
    subst hi'
    rw [List.drop_length] at k
    exact .inl ⟨oks (Nat.le_refl _), (show okS m ca W g0 g' D (.nx env') S' from k) g' σ' e2 (Mo.refl _) s2 hE2⟩
/-! ### while -/
def whileD (c : En → M Bool) (body : En → M Fl) : Nat → En → M Fl
  | 0, _ => M.bad
  | n + 1, env => liftS (c env) env fun b => if b = true then M.bind (body env) fun fl => match fl with
      | .nx e => whileD c body n e
      | .ct e => whileD c body n e
      | .bk e => M.ret (.nx e)
      | o => M.ret o
    else M.ret (.nx env)
theorem ds_while {c : Expr} {body : List Stmt} {fc : En → M Bool} {f : En → M Fl} (n : Nat) (hp : PassesOwn (model X.prog X.w) X.A X.env X.xe) (hc : DT m X W ca c fc) (hb : DSs m X W ca body f) : DS m X W ca (.While c body [] pos) (whileD fc f n) := by
  obtain ⟨tc, pc, kc⟩ := hc
  obtain ⟨tb, pb, kb⟩ := hb
  refine ⟨_, ps_while hp pc pb, fun g0 g S σ env e0 hS hE D h => ?_⟩
  refine ⟨fun n σ' H' => ∃ g' S' env', H' = g'.H ∧ Ext m g0 g' ∧ SOk ca g' S' ∧ EnvOk g0.H g' σ' env' ∧ (whileD fc f n env' S').sat (okS m ca W g0 g' D) noX, ⟨n, g, S, env, rfl, e0, hS, hE, h⟩, ?_⟩
  rintro n σ' H' ⟨g', S', env', rfl, e1, s1, hE1, k⟩
  cases n with
  | zero => exact k.elim
  | succ n =>
    unfold whileD at k
    refine kc g0.H g' S' σ' env' s1 hE1 _ (sat_mono (stE e1 hE1 k) (fun b S2 q g2 e2 s2 => ?_) fun _ _ q => q)
    have q := q g2 e2
    cases b with
    | false => exact (show okS m ca W g0 g2 D (.nx env') S2 from q) g2 σ' (e1.trans e2) (Mo.refl _) s2 (hE1.ext e2)
    | true =>
      rw [if_pos rfl] at q
      show ∃ N : L2.St → Hp → Prop, _ ∧ _
      refine ⟨fun σ'' H'' => ∃ g' S' env', H'' = g'.H ∧ Ext m g0 g' ∧ SOk ca g' S' ∧ EnvOk g0.H g' σ'' env' ∧ (whileD fc f n env' S').sat (okS m ca W g0 g' D) noX, fun σ'' H'' w => ⟨n, by omega, w⟩, ?_⟩
      refine kb g0 g2 S2 σ' env' (e1.trans e2) s2 (hE1.ext e2) _ (sat_mono (sat_bind q) (fun fl S3 q => ?_) fun _ _ q => q)
      cases fl with
      | nx e => exact fun g3 σ3 a b c d => ⟨g3, S3, e, rfl, a, c, d, sat_mono q (fun _ _ q => q.mono b) fun _ _ q => q⟩
      | ct e => exact fun g3 σ3 a b c d => ⟨g3, S3, e, rfl, a, c, d, sat_mono q (fun _ _ q => q.mono b) fun _ _ q => q⟩
      | bk e => exact q
      | rt d => exact q
      | rtO d => exact q
      | ex c e => exact q

theorem FsOk.kp {g g' : G} {n : Nat} (sm : Same g.F g'.F) (ob : PiLe g.p g'.p) (hp : ∀ l a, g.p l = some a → g'.p l = some a) (hH : ∀ l a o, g.p l = some a → g.H a = some o → g'.H a = some o) :
    ∀ {vs : List (Str × V)} {ws : List (Str × FV)}, FsOk g n vs ws → FsOk g' n vs ws
  | _, _, .nil => .nil
  | _, _, .cons (w := w) h t z => .cons (by
      cases w with
      | f d => exact Rp.mono sm ob h
      | o xs => obtain ⟨l, vs, h1, h2, h3, h4⟩ := h; exact ⟨l, vs, h1, hp _ _ h2, hH _ _ _ h2 h3, RpA.mono sm ob h4⟩
      | k xs => obtain ⟨l, vs, h1, h2, h3, h4⟩ := h; exact ⟨l, vs, h1, hp _ _ h2, hH _ _ _ h2 h3, RpK.mono sm ob h4⟩) (FsOk.kp sm ob hp hH t) z
/-- what is nobody's, or the frame's own, is written -/
def G.wr (g : G) (q : Addr) (u : HO) : G := ⟨g.F, upd g.H q u, g.p⟩
theorem sok_wr {g : G} {S : Store} (hS : SOk ca g S) {q : Addr} {o u : HO} (hq : g.H q = some o) (hz : ∀ ob w, o ≠ .frz ob w := by intro _ _ h; cases h) (hF : g.F q = none) (hp : ∀ l, g.p l ≠ some q) : SOk ca (g.wr q u) S := by
  have nq : ∀ l a, g.p l = some a → a ≠ q := fun l a h z => hp l (by rw [← z]; exact h)
  have at_ : ∀ l a o, g.p l = some a → g.H a = some o → (g.wr q u).H a = some o := fun l a o h1 h2 => by show upd g.H q u a = _; rw [upd_ne (nq l a h1)]; exact h2
  refine ⟨fun b x e => ?_, hS.inj, hS.out, fun l a h => ?_, fun n ob h hc => ?_, fun a ns h => (hS.sc a ns h).keep fun b ob w e => ?_, hS.lt, hS.lf, fun n ob h hc => (hS.raw n ob h hc).imp fun a h => ⟨h.1, RawAt.mv (g := g) (g' := g.wr q u) (Same.refl _) (PiLe.refl _) (fun o x => at_ _ _ _ h.1 x) h.2⟩⟩
  · have : b ≠ q := fun z => by
      subst z
      have e : g.F b = some x := e
      rw [hF] at e; cases e
    show upd g.H q u b = _
    rw [upd_ne this]; exact hS.same _ _ e
  · obtain ⟨o, h1⟩ := hS.live l a h
    exact ⟨o, at_ l a o h h1⟩
  · obtain ⟨a, dx, fs, h1, h2, h3⟩ := hS.obs n ob h hc
    exact ⟨a, dx, fs, h1, at_ _ _ _ h1 h2, FsOk.kp (g := g) (g' := g.wr q u) (Same.refl _) (PiLe.refl _) (fun _ _ h => h) at_ h3⟩
  · have : b ≠ q := fun z => by
      subst z
      rw [hq] at e; cases e
      exact hz _ _ rfl
    show upd g.H q u b = _
    rw [upd_ne this]; exact e
theorem mo_wr {g : G} {q : Addr} {o u : HO} (hq : g.H q = some o) (hz : ∀ x y, o ≠ .frz x y) (hp : ∀ l, g.p l ≠ some q) : Mo m g (g.wr q u) :=
  ⟨Same.refl _, PiLe.refl _, fun b h => by
    have h : upd g.H q u b = none := h
    by_cases z : b = q
    · subst z; rw [upd_same] at h; cases h
    · rw [upd_ne z] at h; exact h, fun _ => ⟨rfl, fun l a o h1 h2 => by show upd g.H q u a = _; rw [upd_ne (fun z => hp l (by rw [← z]; exact h1))]; exact h2⟩, fun b x y h => by
    have : b ≠ q := fun z => by subst z; rw [hq] at h; cases h; exact hz _ _ rfl
    show upd g.H q u b = _
    rw [upd_ne this]; exact h⟩
/-- .. from an entry at which it was not there -/
theorem ext_wr {g0 g : G} (e : Ext m g0 g) {q : Addr} {u : HO} (n : g0.H q = none) : Ext m g0 (g.wr q u) :=
  ⟨e.same, fun b o h f k => by
    obtain ⟨h1, h2, h3⟩ := e.stay b o h f k
    exact ⟨by show upd g.H q u b = _; rw [upd_ne (ne_of_none h n)]; exact h1, h2, h3⟩, e.obs, fun b h => by
    have h : upd g.H q u b = none := h
    by_cases z : b = q
    · subst z; exact n
    · rw [upd_ne z] at h; exact e.dom b h, fun hm => by
    obtain ⟨h1, h2⟩ := e.pure hm
    exact ⟨h1, fun l a o h3 h4 => by show upd g.H q u a = _; rw [upd_ne (ne_of_none h4 n)]; exact h2 l a o h3 h4⟩, fun b x y h => by
    have h1 := e.frz b x y h
    show upd g.H q u b = _
    rw [upd_ne (ne_of_none h n)]; exact h1⟩
/-! ### a list comprehension -/
def wipeE (env : En) : List Nat → En
  | [] => env
  | v :: vs => (wipeE env vs).set v .u
theorem EnvOk.wipe {H0 : Hp} {g : G} {σ : L2.St} {env : En} (h : EnvOk H0 g σ env) : ∀ vs : List Nat, EnvOk H0 g (wipe σ vs) (wipeE env vs)
  | [] => h
  | v :: vs => by
    have ih := EnvOk.wipe h vs
    unfold L2.wipe wipeE
    refine ⟨by simp [ih.len], fun j x y a b => ?_, fun j k x y y' ne a b c d' o o' => ?_⟩
    · by_cases hj : v = j
      · subst hj
        have hi : v < (wipeE env vs).length := by
          have := (List.getElem?_eq_some_iff.mp b).1
          simpa using this
        rw [List.getElem?_set_self hi] at b
        cases b
        trivial
      · rw [List.getElem?_set_ne hj] at a b
        exact ih.at_ j x y a b
    · have nj : v ≠ j := fun z => by
        subst z
        have hi : v < (wipeE env vs).length := by
          have := (List.getElem?_eq_some_iff.mp c).1
          simpa using this
        rw [List.getElem?_set_self hi] at c
        cases c; cases o
      have nk : v ≠ k := fun z => by
        subst z
        have hi : v < (wipeE env vs).length := by
          have := (List.getElem?_eq_some_iff.mp d').1
          simpa using this
        rw [List.getElem?_set_self hi] at d'
        cases d'; cases o'
      rw [List.getElem?_set_ne nj] at a c
      rw [List.getElem?_set_ne nk] at b d'
      exact ih.apart j k x y y' ne a b c d' o o'
/-- what must not raise -/
def quiet {α : Type} (c : M α) : M α := fun S => match c S with
  | .ok a S' => .ok a S'
  | _ => .bad
theorem sat_quiet {α : Type} {c : M α} {S : Store} {P : α → Store → Prop} {E E' : Str → Store → Prop} (h : (quiet c S).sat P E) : (c S).sat P E' := by
  unfold quiet at h
  cases e : c S with
  | ok a S' => rw [e] at h; exact h
  | exc c S' => rw [e] at h; exact h.elim
  | bad => rw [e] at h; exact h.elim
def lcD (b : D → En → Option En) (t : En → M Bool) (elt : En → M D) (env : En) : List D → List D → M (List D)
  | [], acc => M.ret acc
  | d :: ds, acc => match b d env with
    | none => M.bad
    | some env1 => M.bind (quiet (t env1)) fun k => if k = true then M.bind (quiet (elt env1)) fun y => if acc.length < lim then lcD b t elt env ds (acc ++ [y]) else M.bad else lcD b t elt env ds acc
def oLc (it : En → M (List D)) (b : D → En → Option En) (t : En → M Bool) (elt : En → M D) (vs : List Nat) : En → M (List D) := fun env => M.bind (it env) fun ds => lcD b t elt (wipeE env vs) ds []
abbrev W0 : WX := fun _ _ _ _ => False
abbrev Blk (X : Cx) (scope : Scope) (P : Cx → Prop) : Prop := ∀ (s : Shared) (H : Hp) (C : Addr) (cl : List (Str × Addr)) (fp : List Addr), P (X.blk s H scope (compEnvC scope cl C X.env) fp)
def DTs (m : Bool) (X : Cx) (W : WX) (ca : Ct) (es : List Expr) (f : En → M Bool) : Prop :=
  ∃ t, PTs X es t ∧ ∀ H0 g S σ env, SOk ca g S → EnvOk H0 g σ env → ∀ Q : Bool → Hp → Prop, (f env S).sat (okT m ca g Q) (exE m ca W g σ) → t σ g.H Q
def tYesD : En → M Bool := fun _ => M.ret true
theorem dts_nil : DTs m X W ca [] tYesD := ⟨_, pts_nil, fun H0 g S σ env hS hE Q h => h g (Ext.refl _) hS⟩
theorem dts_one {c : Expr} {f : En → M Bool} (h : DT m X W ca c f) : DTs m X W ca [c] f := let ⟨_, p, k⟩ := h; ⟨_, pts_one p, k⟩
/-- a reading that says what it gives -/
abbrev SpE (m : Bool) (W : WX) (ca : Ct) (f : En → M D) (t : TE) : Prop := ∀ H0 g S σ env, SOk ca g S → EnvOk H0 g σ env → ∀ Q : VK, (f env S).sat (okE m ca g Q) (exE m ca W g σ) → t σ g.H Q
abbrev SpT (m : Bool) (W : WX) (ca : Ct) (f : En → M Bool) (t : TT) : Prop := ∀ H0 g S σ env, SOk ca g S → EnvOk H0 g σ env → ∀ Q : Bool → Hp → Prop, (f env S).sat (okT m ca g Q) (exE m ca W g σ) → t σ g.H Q
abbrev SpG (b : D → En → Option En) (ks : List Nat) (t : TG) : Prop := ∀ H0 g σ env v d env', Same g.F g.H → EnvOk H0 g σ env → Rp g.F g.p v d → b d env = some env' → ∀ Q : L2.St → Hp → Prop,
    (∀ σ', EnvOk H0 g σ' env' → (∀ vs, (∀ k ∈ ks, k ∈ vs) → wipe σ' vs = wipe σ vs) → Q σ' g.H) → t v σ g.H Q
/-- one reading for all blocks -/
theorem allE {scope : Scope} {elt : Expr} {f : En → M D} (h : Blk X scope fun Y => DE m Y W0 ca elt f) : ∃ te : TE, (Blk X scope fun Y => PE Y elt te) ∧ SpE m W0 ca f te :=
  ⟨fun σ H Q => ∀ t : TE, SpE m W0 ca f t → t σ H Q, fun s H C cl fp => by
    obtain ⟨t, p, k⟩ := h s H C cl fp
    exact ⟨fun pins s' σ H' Q I q => p.run pins s' σ H' Q I (q t k)⟩, fun H0 g S σ env hS hE Q q t k => k H0 g S σ env hS hE Q q⟩
theorem allT {scope : Scope} {es : List Expr} {f : En → M Bool} (h : Blk X scope fun Y => DTs m Y W0 ca es f) : ∃ te : TT, (Blk X scope fun Y => PTs Y es te) ∧ SpT m W0 ca f te :=
  ⟨fun σ H Q => ∀ t : TT, SpT m W0 ca f t → t σ H Q, fun s H C cl fp => by
    obtain ⟨t, p, k⟩ := h s H C cl fp
    exact ⟨fun pins s' σ H' Q I q => p.run pins s' σ H' Q I (q t k)⟩, fun H0 g S σ env hS hE Q q t k => k H0 g S σ env hS hE Q q⟩
theorem allG {scope : Scope} {tg : Expr} {b : D → En → Option En} {ks : List Nat} (h : Blk X scope fun Y => DG Y tg b ks) : ∃ t : TG, (Blk X scope fun Y => PG Y tg t) ∧ SpG b ks t :=
  ⟨fun v σ H Q => ∀ t : TG, SpG b ks t → t v σ H Q, fun s H C cl fp => by
    obtain ⟨t, p, k⟩ := h s H C cl fp
    exact ⟨fun pins s' σ H' v u Q I r q => p.run pins s' σ H' v u Q I r (q t k)⟩, fun H0 g σ env v d env' sm hE r e Q q t k => k H0 g σ env v d env' sm hE r e Q q⟩
theorem lc_read {wi : TI} {tg : TG} {tt : TT} {te : TE} {vs ks : List Nat} {it : En → M (List D)} {b : D → En → Option En} {ft : En → M Bool} {fe : En → M D}
    (ki : ∀ H0 g S σ env, SOk ca g S → EnvOk H0 g σ env → ∀ R : It → Hp → Prop, (it env S).sat (fun ds S' => ∀ g' J, Ext m g g' → SOk ca g' S' → ItOk false m ca g' J ds → R J g'.H) (exE m ca W g σ) → wi σ g.H R)
    (kg : SpG b ks tg) (kt : SpT m W0 ca ft tt) (ke : SpE m W0 ca fe te) (hk : ∀ k ∈ ks, k ∈ vs) :
    ∀ H0 g S σ env, SOk ca g S → EnvOk H0 g σ env → ∀ Q : VK, (oLc it b ft fe vs env S).sat (okO m ca g Q) (exE m ca W g σ) → tLc wi tg tt te vs σ g.H Q := fun H0 g S σ env hS hE Q h => by
  refine ki H0 g S σ env hS hE _ (sat_mono (seqO h) (fun ds S1 z g1 J e1 s1 ok => ?_) fun _ _ q => q)
  have z := z g1 e1
  intro L hL
  -- the new list is nobody's
  refine ⟨fun i n H' => n = ds.length - i ∧ i ≤ ds.length ∧ ∃ g' S' acc ac, H' = g'.H ∧ Ext m g1 g' ∧ SOk ca g' S' ∧ g'.H L = some (.lst ac) ∧ g'.F L = none ∧ (∀ l, g'.p l ≠ some L) ∧ RpA g'.F g'.p ac acc ∧ (lcD b ft fe (wipeE env vs) (ds.drop i) acc S').sat (okO m ca g1 Q) (exE m ca W g1 σ),
    ⟨ds.length, by simp, Nat.zero_le _, g1.nw L (.lst []), S1, [], [], rfl, ext_nw s1 hL _, sok_nw s1 hL _, upd_same, s1.free hL, s1.nop hL, .nil, z⟩, ?_⟩
  rintro i n H' ⟨rfl, hi, g', S', acc, ac, rfl, e2, s2, hl1, hl2, hl3, ra, k⟩
  obtain ⟨okg, oks⟩ := ok g' S' e2 s2 i
  by_cases hlt : i < ds.length
  · have hd : ds.drop i = ds[i] :: ds.drop (i + 1) := List.drop_eq_getElem_cons hlt
    rw [hd] at k
    obtain ⟨go, yl⟩ := okg ds[i] (List.getElem?_eq_getElem hlt)
    refine .inr ⟨go, fun H'' => ∃ g'' S' acc ac, H'' = g''.H ∧ Ext m g1 g'' ∧ SOk ca g'' S' ∧ g''.H L = some (.lst ac) ∧ g''.F L = none ∧ (∀ l, g''.p l ≠ some L) ∧ RpA g''.F g''.p ac acc ∧ (lcD b ft fe (wipeE env vs) (ds.drop (i + 1)) acc S').sat (okO m ca g1 Q) (exE m ca W g1 σ),
      fun H'' w => ⟨ds.length - (i + 1), by omega, rfl, hlt, w⟩, fun x H'' y => ?_⟩
    obtain ⟨rfl, rx⟩ := yl x H'' y
    unfold lcD at k
    have hE2 : EnvOk H0 g' (wipe σ vs) (wipeE env vs) := (((hE.ext e1).ext e2).wipe vs)
    cases eb : b ds[i] (wipeE env vs) with
    | none => rw [eb] at k; exact k.elim
    | some env1 =>
      rw [eb] at k
      refine kg H0 g' _ _ x _ env1 s2.same hE2 rx eb _ fun σ1 hE1 hw => ⟨(hw vs hk).trans wipe_wipe, ?_⟩
      refine kt H0 g' S' σ1 env1 s2 hE1 _ (sat_mono (sat_quiet (E' := exE m ca W0 g' σ1) (sat_bind k)) (fun kb S3 q g3 e3 s3 => ?_) fun _ _ q => q)
      obtain ⟨a3, f3, p3⟩ := e3.stay L _ hl1 hl2 hl3
      cases kb with
      | false => exact ⟨g3, S3, acc, ac, rfl, e2.trans e3, s3, a3, f3, p3, e3.rpA ra, q⟩
      | true =>
        rw [if_pos rfl] at q ⊢
        refine ke H0 g3 S3 σ1 env1 s3 (hE1.ext e3) _ (sat_mono (sat_quiet (E' := exE m ca W0 g3 σ1) (sat_bind q)) (fun y S4 q g4 v e4 s4 r4 => ?_) fun _ _ q => q)
        obtain ⟨a4, f4, p4⟩ := e4.stay L _ a3 f3 p3
        by_cases c : acc.length < lim
        · rw [if_pos c] at q
          have ra4 := e4.rpA (e3.rpA ra)
          exact ⟨ac, a4, by rw [ra4.length]; exact lim_lt' c, g4.wr L (.lst (ac ++ [v])), S4, acc ++ [y], ac ++ [v], rfl, ext_wr ((e2.trans e3).trans e4) hL, sok_wr s4 a4 (hF := f4) (hp := p4), upd_same, f4, p4, ra4.append (.one r4), q⟩
        · rw [if_neg c] at q; exact q.elim
  · have hi' : i = ds.length := by omega
    subst hi'
    rw [List.drop_length] at k
    exact .inl ⟨oks (Nat.le_refl _), (show okO m ca g1 Q acc S' from k) g' L ac e2 s2 hL hl1 hl2 hl3 ra⟩
theorem do_lc {elt tg iter : Expr} {ifs : List Expr} {scope : Scope} {own : List (Str × Nat)} {it : En → M (List D)} {b : D → En → Option En} {ks : List Nat} {ft : En → M Bool} {fe : En → M D} (hc : X.calm = true) (hN : X.N.Nodup)
    (hi : DI false m X W ca iter it) (ok : BlkOk X.N X.env.scope scope own) (hg : Blk X scope fun Y => DG Y tg b ks) (ht : Blk X scope fun Y => DTs m Y W0 ca ifs ft) (he : Blk X scope fun Y => DE m Y W0 ca elt fe) (hk : ∀ k ∈ ks, k ∈ own.map (·.2) := by decide)
    (hs : ∀ x, foldedSetIterable iter X.env x = pure x := by intro _; rfl) : DO m X W ca (.ListComp elt [⟨tg, iter, ifs, 0⟩] scope pos) (oLc it b ft fe (own.map (·.2))) := by
  obtain ⟨wi, pi, ki⟩ := hi
  obtain ⟨t1, p1, k1⟩ := allG hg
  obtain ⟨t2, p2, k2⟩ := allT ht
  obtain ⟨t3, p3, k3⟩ := allE he
  exact ⟨_, pe_lc hc hN (pi tg) ok p1 p2 p3 hs, lc_read ki k1 k2 k3 hk⟩
theorem ds_setLc {elt tg iter : Expr} {ifs : List Expr} {scope : Scope} {own : List (Str × Nat)} {it : En → M (List D)} {b : D → En → Option En} {ks : List Nat} {ft : En → M Bool} {fe : En → M D} {y : Str} {py spos : Pos} (i : Nat) (hc : X.calm = true) (hN : X.N.Nodup)
    (hy : X.N[i]? = some y) (hyl : X.env.scope.names.lookup y = some .local) (hsw : swapsWith (.ListComp elt [⟨tg, iter, ifs, 0⟩] scope pos) (some (.Name y py)) spos.line X.env = pure true)
    (hi : DI false m X W ca iter it) (ok : BlkOk X.N X.env.scope scope own) (hg : Blk X scope fun Y => DG Y tg b ks) (ht : Blk X scope fun Y => DTs m Y W0 ca ifs ft) (he : Blk X scope fun Y => DE m Y W0 ca elt fe) (hk : ∀ k ∈ ks, k ∈ own.map (·.2) := by decide)
    (hs : ∀ x, foldedSetIterable iter X.env x = pure x := by intro _; rfl) : DS m X W ca (.Assign [.Name y py] (.ListComp elt [⟨tg, iter, ifs, 0⟩] scope pos) spos) (sSetO i (oLc it b ft fe (own.map (·.2)))) := by
  obtain ⟨wi, pi, ki⟩ := hi
  obtain ⟨t1, p1, k1⟩ := allG hg
  obtain ⟨t2, p2, k2⟩ := allT ht
  obtain ⟨t3, p3, k3⟩ := allE he
  exact ⟨_, ps_setLc hc hN hy hyl hsw (pi tg) ok p1 p2 p3 hs, setO_ok (lc_read ki k1 k2 k3 hk)⟩
end
end Dn

namespace Dn
open PySem L2 PyProof.Rows

/-! ### lists of the frame's own, written -/
theorem own_wr {H0 : Hp} {g : G} {σ : L2.St} {env : En} {i : Nat} {w w' : EV} {q : Addr} {o u : HO} (hE : EnvOk H0 g σ env) (ew : env[i]? = some w) (ow : w.own = true) (es : σ[i]? = some (some (.ref q))) (hq : g.H q = some o) (hn : OwnAt H0 g q)
    (new : EvOk H0 (g.wr q u) (some (.ref q)) w') : EnvOk H0 (g.wr q u) σ (env.set i w') := by
  have hi : i < env.length := (List.getElem?_eq_some_iff.mp ew).1
  refine ⟨by simp [hE.len], fun j x y a b => ?_, fun j k x y y' ne a b c d' o1 o2 => ?_⟩
  · by_cases hj : i = j
    · subst hj
      rw [List.getElem?_set_self hi] at b
      cases b
      rw [es] at a; cases a
      exact new
    · rw [List.getElem?_set_ne hj] at b
      have z := hE.at_ j x y a b
      have keep : ∀ l, y.own = true → x = some (.ref l) → l ≠ q := fun l oy ex z => by
        subst z; subst ex
        exact hE.apart i j _ w y hj es a ew b ow oy
      cases y with
      | u => trivial
      | x b => exact z
      | f d => exact z
      | o xs =>
        obtain ⟨l, vs, h1, h2, h3, h4⟩ := z
        exact ⟨l, vs, h1, by show upd g.H q u l = _; rw [upd_ne (keep l rfl h1)]; exact h2, h3, ⟨h4.out, h4.nop, h4.new⟩⟩
      | k xs =>
        obtain ⟨l, vs, h1, h2, h3, h4⟩ := z
        exact ⟨l, vs, h1, by show upd g.H q u l = _; rw [upd_ne (keep l rfl h1)]; exact h2, h3, ⟨h4.out, h4.nop, h4.new⟩⟩
  · have p1 : ∃ z, env[j]? = some z ∧ z.own = true := by
      by_cases nj : i = j
      · subst nj; exact ⟨w, ew, ow⟩
      · rw [List.getElem?_set_ne nj] at c; exact ⟨y, c, o1⟩
    have p2 : ∃ z, env[k]? = some z ∧ z.own = true := by
      by_cases nk : i = k
      · subst nk; exact ⟨w, ew, ow⟩
      · rw [List.getElem?_set_ne nk] at d'; exact ⟨y', d', o2⟩
    obtain ⟨z1, e1, w1⟩ := p1
    obtain ⟨z2, e2, w2⟩ := p2
    exact hE.apart j k x z1 z2 ne a b e1 e2 w1 w2
section
variable {m : Bool} {X : Cx} {W : WX} {ca : Ct} {a b e : Expr} {fa fb : En → M D} {pos : Pos}
theorem EnvOk.lst {H0 : Hp} {g : G} {σ : L2.St} {env : En} (h : EnvOk H0 g σ env) {i : Nat} {xs : List D} (e : env[i]? = some (.o xs)) : ∃ q vs, σ[i]? = some (some (.ref q)) ∧ g.H q = some (.lst vs) ∧ RpA g.F g.p vs xs ∧ OwnAt H0 g q := by
  obtain ⟨v, h1, q, vs, rfl, h2, h3, h4⟩ := h.get e
  exact ⟨q, vs, h1, h2, h3, h4⟩
/-- x.append(e) -/
def onO (i : Nat) (k : En → List D → M Fl) : En → M Fl := fun env => match env[i]? with
  | some (.o xs) => k env xs
  | _ => M.bad
theorem onO_get {i : Nat} {k : En → List D → M Fl} {env : En} {S : Store} {P : Fl → Store → Prop} {E : Str → Store → Prop} (h : (onO i k env S).sat P E) : ∃ xs, env[i]? = some (.o xs) ∧ (k env xs S).sat P E := by
  unfold onO at h
  cases e : env[i]? with
  | none => rw [e] at h; exact h.elim
  | some w =>
    rw [e] at h
    cases w with
    | o xs => exact ⟨xs, rfl, h⟩
    | _ => exact h.elim
def sApp (i : Nat) (a : En → M D) : En → M Fl := onO i fun env xs => liftS (a env) env fun d => if xs.length < lim then M.ret (.nx (env.set i (.o (xs ++ [d])))) else M.bad
/-- the list at q in slot i gets the content ys -/
theorem wr_nx {g0 g : G} {S : Store} {σ : L2.St} {env : En} {Z : Ends} {i : Nat} {xs ys : List D} {q : Addr} {vs ws : List V} (e0 : Ext m g0 g) (hS : SOk ca g S) (hE : EnvOk g0.H g σ env) (e : env[i]? = some (.o xs)) (es : σ[i]? = some (some (.ref q))) (hq : g.H q = some (.lst vs)) (hn : OwnAt g0.H g q)
    (r : RpA g.F g.p ws ys) (h : okS m ca W g0 g Z (.nx (env.set i (.o ys))) S) : Z.nx σ (upd g.H q (.lst ws)) :=
  h (g.wr q (.lst ws)) σ (ext_wr e0 hn.new) (mo_wr hq (fun _ _ h => by cases h) hn.nop) (sok_wr hS hq (hF := hn.out) (hp := hn.nop)) (own_wr hE e rfl es hq hn ⟨q, ws, rfl, upd_same, r, ⟨hn.out, hn.nop, hn.new⟩⟩)
theorem ds_app {x : Str} {p0 apos cpos : Pos} (i : Nat) (ha : DE m X W ca a fa) (hN : X.N[i]? = some x := by rfl) (hv : Vis X.env.scope x := by first | exact Or.inl rfl | exact Or.inr (Or.inl rfl) | exact Or.inr (Or.inr rfl)) (hd : (x == ("__debug__" : Str)) = false := by decide)
    (hcd : (x == ("__classdict__" : Str)) = false := by decide) (hbase : attributeBase (.Name x p0) "append" X.env (eval (.Name x p0) X.env) = eval (.Name x p0) X.env := by rfl)
    (hfew : ((backTo cpos (starEach [a] X.env)).all (fun x => !x.1) && (backToKw cpos (keywordEach [] X.env)).all (fun x => x.1.isSome) && decide (([a] : List Expr).length + ([] : List Keyword).length + (if ([] : List Keyword).isEmpty then 0 else 1) < 30)) = true := by rfl)
    (hline : (apos.endLine == cpos.line) = true := by rfl) (hs : starEach [a] X.env = (false, eval a X.env) :: starEach [] X.env := by rfl) (hsw : swapsWith (.Call (.Attribute (.Name x p0) "append" apos) [a] [] cpos) none pos.line X.env = pure false := by rfl) :
    DS m X W ca (.Expr (.Call (.Attribute (.Name x p0) "append" apos) [a] [] cpos) pos) (sApp i fa) := by
  obtain ⟨t, p, k⟩ := ha
  refine ⟨_, ps_expr (pe_bm PySem.F.plainAttrs_list PySem.F.slot_list_append PySem.F.type_list_append mt_append (pe_var hN hv hd hcd) (pa_cons p pa_nil hs) hbase hfew hline hs) hsw, fun g0 g S σ env e0 hS hE D h => ?_⟩
  obtain ⟨xs, e, h⟩ := onO_get h
  obtain ⟨q, vs, es, hq, r, hn⟩ := hE.lst e
  refine ⟨_, es, .inl ⟨rfl, vs, SqL.of hq⟩, ?_⟩
  refine k g0.H g S σ env hS hE _ (sat_mono (stE e0 hE h) (fun d S1 z g1 v e1 s1 r1 => ?_) fun _ _ q => q)
  have z := z g1 e1
  obtain ⟨hn1, hq1⟩ := hn.ext hq e1
  by_cases c : xs.length < lim
  · rw [if_pos c] at z
    have r2 := (e1.rpA r).append (.one r1)
    exact ⟨q, vs, v, rfl, rfl, hq1, by rw [r.length]; exact lim_lt' c, wr_nx (W := W) (e0.trans e1) s1 (hE.ext e1) e es hq1 hn1 r2 z⟩
  · rw [if_neg c] at z; exact z.elim
/-- x.extend(e) -/
def sExt (i : Nat) (a : En → M D) : En → M Fl := onO i fun env xs => liftS (a env) env fun d => match d with
  | .lst ys => if xs.length + ys.length ≤ lim then M.ret (.nx (env.set i (.o (xs ++ ys)))) else M.bad
  | _ => M.bad
theorem ds_ext {x : Str} {p0 apos cpos : Pos} (i : Nat) (ha : DE m X W ca a fa) (hN : X.N[i]? = some x := by rfl) (hv : Vis X.env.scope x := by first | exact Or.inl rfl | exact Or.inr (Or.inl rfl) | exact Or.inr (Or.inr rfl)) (hd : (x == ("__debug__" : Str)) = false := by decide)
    (hcd : (x == ("__classdict__" : Str)) = false := by decide) (hbase : attributeBase (.Name x p0) "extend" X.env (eval (.Name x p0) X.env) = eval (.Name x p0) X.env := by rfl)
    (hfew : ((backTo cpos (starEach [a] X.env)).all (fun x => !x.1) && (backToKw cpos (keywordEach [] X.env)).all (fun x => x.1.isSome) && decide (([a] : List Expr).length + ([] : List Keyword).length + (if ([] : List Keyword).isEmpty then 0 else 1) < 30)) = true := by rfl)
    (hline : (apos.endLine == cpos.line) = true := by rfl) (hs : starEach [a] X.env = (false, eval a X.env) :: starEach [] X.env := by rfl) (hsw : swapsWith (.Call (.Attribute (.Name x p0) "extend" apos) [a] [] cpos) none pos.line X.env = pure false := by rfl) :
    DS m X W ca (.Expr (.Call (.Attribute (.Name x p0) "extend" apos) [a] [] cpos) pos) (sExt i fa) := by
  obtain ⟨t, p, k⟩ := ha
  refine ⟨_, ps_expr (pe_bm PySem.F.plainAttrs_list PySem.F.slot_list_extend PySem.F.type_list_extend mt_extend (pe_var hN hv hd hcd) (pa_cons p pa_nil hs) hbase hfew hline hs) hsw, fun g0 g S σ env e0 hS hE D h => ?_⟩
  obtain ⟨xs, e, h⟩ := onO_get h
  obtain ⟨q, vs, es, hq, r, hn⟩ := hE.lst e
  refine ⟨_, es, .inl ⟨rfl, vs, SqL.of hq⟩, ?_⟩
  refine k g0.H g S σ env hS hE _ (sat_mono (stE e0 hE h) (fun d S1 z g1 v e1 s1 r1 => ?_) fun _ _ q => q)
  have z := z g1 e1
  obtain ⟨hn1, hq1⟩ := hn.ext hq e1
  cases d with
  | lst ys =>
    dsimp only at z
    by_cases c : xs.length + ys.length ≤ lim
    · rw [if_pos c] at z
      obtain ⟨b, ws, rfl, h1, r3⟩ := Rb.lst (m := m) s1 (.inl r1)
      exact ⟨q, b, vs, ws, rfl, rfl, hq1, h1, by rw [r.length, r3.length]; exact lim_lt c, wr_nx (W := W) (e0.trans e1) s1 (hE.ext e1) e es hq1 hn1 ((e1.rpA r).append r3) z⟩
    · rw [if_neg c] at z; exact z.elim
  | _ => exact z.elim
/-- x[j] = e -/
def sSetI (i : Nat) (j a : En → M D) : En → M Fl := onO i fun env xs => liftS (a env) env fun d => liftS (j env) env fun k => match k with
  | .int n => match ixN xs.length n with
    | some p => M.ret (.nx (env.set i (.o (xs.set p d))))
    | none => M.bad
  | _ => M.bad
theorem ds_setI {x : Str} {p0 spos : Pos} (i : Nat) (hj : DE m X W ca b fb) (ha : DE m X W ca a fa) (hN : X.N[i]? = some x := by rfl) (hv : Vis X.env.scope x := by first | exact Or.inl rfl | exact Or.inr (Or.inl rfl) | exact Or.inr (Or.inr rfl)) (hd : (x == ("__debug__" : Str)) = false := by decide)
    (hcd : (x == ("__classdict__" : Str)) = false := by decide) (hsw : swapsWithSole [.Subscript (.Name x p0) b spos] a pos.line X.env = pure false := by rfl) (hsw2 : swappedStores [.Subscript (.Name x p0) b spos] a X.env = pure none := by rfl)
    (h1 : (assignEach [.Subscript (.Name x p0) b spos] X.env).map (·.2) = [assign (.Subscript (.Name x p0) b spos) X.env] := by rfl)
    (has : ∀ v, assign (.Subscript (.Name x p0) b spos) X.env v = (do
      let ov ← holding [v] (eval (.Name x p0) X.env)
      let iv ← holding [v, ov] (eval b X.env)
      standAt spos
      holding [v, ov, iv] (setItem ov iv v)
      release [v, ov, iv] []) := by intro _; rfl) :
    DS m X W ca (.Assign [.Subscript (.Name x p0) b spos] a pos) (sSetI i fb fa) := by
  obtain ⟨t, p, k⟩ := ha
  obtain ⟨t2, p2, k2⟩ := hj
  refine ⟨_, ps_asg p (pg_sub (pe_var hN hv hd hcd) p2 set_list has) hsw hsw2 h1, fun g0 g S σ env e0 hS hE D h => ?_⟩
  obtain ⟨xs, e, h⟩ := onO_get h
  obtain ⟨q, vs, es, hq, r, hn⟩ := hE.lst e
  refine k g0.H g S σ env hS hE _ (sat_mono (stE e0 hE h) (fun d S1 z g1 v e1 s1 r1 => ?_) fun _ _ q => q)
  have z := z g1 e1
  obtain ⟨hn1, hq1⟩ := hn.ext hq e1
  refine ⟨_, es, ?_⟩
  refine k2 g0.H g1 S1 σ env s1 (hE.ext e1) _ (sat_mono (stE (e0.trans e1) (hE.ext e1) z) (fun j S2 z g2 u e2 s2 r2 => ?_) fun _ _ q => q)
  have z := z g2 e2
  obtain ⟨hn2, hq2⟩ := hn1.ext hq1 e2
  cases j with
  | int n =>
    cases r2
    dsimp only at z
    cases e5 : ixN xs.length n with
    | none => rw [e5] at z; exact z.elim
    | some pp =>
      rw [e5] at z
      exact ⟨q, vs, n, pp, rfl, rfl, hq2, by rw [r.length]; exact e5, wr_nx (W := W) ((e0.trans e1).trans e2) s2 ((hE.ext e1).ext e2) e es hq2 hn2 (RpA.set pp (e2.rp r1) (e2.rpA (e1.rpA r))) z⟩
  | _ => exact z.elim
end

/-! ### how exceptions are told of -/
abbrev CXf (P : Program) (w : World) : CXT := L2N.CX P w
abbrev Tk (X : Cx) (W : WX) : Prop := L2N.Takes X W
theorem tkPass {X : Cx} {W : WX} (tk : Tk X W) (σ : L2.St) : PassesAt (CXf X.prog X.w) X σ (WE W σ) := L2N.passAt tk σ
theorem tk0 {X : Cx} : Tk X (fun _ _ _ _ => False) := fun _ _ x => by
  obtain ⟨_, _, _, _, _, _, _, _, _, _, _, _, _, _, _, _, z⟩ := x
  exact z.elim
/-! ### defs -/
inductive Res where
  | f (d : D) | o (xs : List D)
abbrev Fn := List D → M Res
def RpR (g g' : G) (v : V) : Res → Prop
  | .f d => Rp g'.F g'.p v d
  | .o xs => ∃ q vs, v = .ref q ∧ g.H q = none ∧ g'.H q = some (.lst vs) ∧ g'.F q = none ∧ (∀ l, g'.p l ≠ some q) ∧ RpA g'.F g'.p vs xs
def okR (m : Bool) (ca : Ct) (g : G) (Q : VK) : Res → Store → Prop := fun r S' => ∀ g' v, Ext m g g' → SOk ca g' S' → RpR g g' v r → Q v g'.H
def exR (m : Bool) (ca : Ct) (g : G) (E : XK) : Str → Store → Prop := fun c S' => ∀ g', Ext m g g' → SOk ca g' S' → E (.ref (ca c)) none g'.H
/-- what a def promises: f tells what it gives -/
def spOf (m : Bool) (ca : Ct) (n : Nat) (f : Fn) : Sp := fun vs H Q E => vs.length = n ∧ ∃ g S ds, g.H = H ∧ SOk ca g S ∧ RpA g.F g.p vs ds ∧ (f ds S).sat (okR m ca g Q) (exR m ca g E)
def evs (ds : List D) : En := ds.map EV.f
theorem evs_nil : evs [] = [] := rfl
theorem evs_cons (d : D) (ds : List D) : evs (d :: ds) = .f d :: evs ds := rfl
def initE (n : Nat) (ds : List D) : En := evs ds ++ List.replicate (n - ds.length) EV.u
def fnD (n : Nat) (body : En → M Fl) : Fn := fun ds => M.bind (quiet (body (initE n ds))) fun fl => match fl with
  | .nx _ => M.ret (.f .non)
  | .rt d => M.ret (.f d)
  | .rtO xs => M.ret (.o xs)
  | .ex c _ => M.raise c
  | _ => M.bad
theorem env_start {H0 : Hp} {g : G} {N : List Str} {vs : List V} {ds : List D} (r : RpA g.F g.p vs ds) : EnvOk H0 g (L2.start N vs) (initE N.length ds) := by
  have hl := r.length
  refine ⟨by simp [L2.start, initE, evs, hl], fun i v w a b => ?_, fun i j v w w' ne a b c d o o' => ?_⟩
  · unfold L2.start at a
    unfold initE evs at b
    by_cases hi : i < ds.length
    · rw [List.getElem?_append_left (by simpa [hl] using hi), List.getElem?_map] at a
      rw [List.getElem?_append_left (by simpa using hi), List.getElem?_map, List.getElem?_eq_getElem hi] at b
      cases b
      obtain ⟨x, h1, h2⟩ := r.get i (List.getElem?_eq_getElem hi)
      rw [h1] at a; cases a
      exact ⟨x, rfl, h2⟩
    · rw [List.getElem?_append_right (by simpa using hi), List.getElem?_replicate] at b
      split at b
      · cases b; trivial
      · cases b
  · unfold initE evs at c
    by_cases hi : i < ds.length
    · rw [List.getElem?_append_left (by simpa using hi), List.getElem?_map, List.getElem?_eq_getElem hi] at c
      cases c; cases o
    · rw [List.getElem?_append_right (by simpa using hi), List.getElem?_replicate] at c
      split at c
      · cases c; cases o
      · cases c
section
variable {P : Program} {w : World} {K : PySem.W.Frag} {mg : Str → Option Value} {base : Heap}
theorem okD {x qual : Str} {st : Stmt} {f : Addr} {fd : FuncData} {N ps : List Str} {k : Nat} {sp : Sp} (F : Fun K x qual st f fd) (S : FnScope N ps (defScope st)) (len : ∀ vs H Q E, sp vs H Q E → vs.length = ps.length)
    (hb : ∀ (cdv : Value) (A : Around) (outer : List PySem.Env) (s : Shared) (H : Hp) (vs : List V) (Q : VK) (E : XK), Room k (A.deeper (envOfC qual (defScope st) s.heap.objs.size f cdv)) → sp vs H Q E →
      ∃ t, PSs (cxOf (CXf P w) P w K mg base N qual (defScope st) f cdv A outer s H E) (defBody st) t ∧ t { nx := fun _ H' => Q .non H', rt := Q } (L2.start N vs) H) : FnOk P w K mg base (CXf P w) (k + 1) f fd ps sp := by
  obtain ⟨oc, od, kV, doc, pm, an, cdv, ct, osl, rfl, lk, hcd⟩ := F.ex
  exact fn_of lk hcd S len fun A outer s H vs Q E => hb cdv A outer s H vs Q E
abbrev FnD (P : Program) (w : World) (K : PySem.W.Frag) (mg : Str → Option Value) (base : Heap) (k : Nat) (fa : Addr) (fd : FuncData) (ps : List Str) (m : Bool) (ca : Ct) (f : Fn) : Prop := FnOk P w K mg base (CXf P w) k fa fd ps (spOf m ca ps.length f)
theorem fn_mkD {x qual : Str} {st : Stmt} {fa : Addr} {fd : FuncData} {N ps : List Str} {k : Nat} {m : Bool} {ca : Ct} {body : En → M Fl} (F : Fun K x qual st fa fd) (S : FnScope N ps (defScope st))
    (h : ∀ (cdv : Value) (A : Around) (outer : List PySem.Env) (s : Shared) (H : Hp) (E : XK), Room k (A.deeper (envOfC qual (defScope st) s.heap.objs.size fa cdv)) →
      Tk (cxOf (CXf P w) P w K mg base N qual (defScope st) fa cdv A outer s H E) (fun cls d _ H => E cls d H) → PassesOwn (model P w) (A.deeper (envOfC qual (defScope st) s.heap.objs.size fa cdv)) (envOfC qual (defScope st) s.heap.objs.size fa cdv) (cxOf (CXf P w) P w K mg base N qual (defScope st) fa cdv A outer s H E).xe →
      DSs m (cxOf (CXf P w) P w K mg base N qual (defScope st) fa cdv A outer s H E) (fun cls d _ H => E cls d H) ca (defBody st) body) :
    FnD P w K mg base (k + 1) fa fd ps m ca (fnD N.length body) := by
  refine okD F S (fun vs H Q E q => q.1) (fun cdv A outer s H vs Q E hr q => ?_)
  obtain ⟨hl, g, S', ds, rfl, hS, r, k⟩ := q
  obtain ⟨t, p, kk⟩ := h cdv A outer s g.H E hr (L2N.takes_of rfl rfl rfl rfl) (passes_of rfl)
  refine ⟨t, p, kk g g S' _ _ (Ext.refl g) hS (env_start r) _ (sat_mono (sat_quiet (E' := noX) (sat_bind k)) (fun fl S1 q => ?_) fun _ _ q => q)⟩
  · cases fl with
    | nx env => exact fun g' σ' e _ s1 _ => (show okR m ca g Q (.f .non) S1 from q) g' _ e s1 .non
    | rt d => exact fun g' v e _ s1 r => (show okR m ca g Q (.f d) S1 from q) g' v e s1 r
    | rtO xs => exact fun g' l vs e _ s1 h1 h2 h3 h4 h5 => (show okR m ca g Q (.o xs) S1 from q) g' _ e s1 ⟨l, vs, rfl, h1, h2, h3, h4, h5⟩
    | ex c env => exact fun g' σ' e _ s1 _ => (show exR m ca g E c S1 from q) g' e s1
    | bk env => exact q.elim
    | ct env => exact q.elim
theorem FnD.to {k : Nat} {fa : Addr} {fd : FuncData} {ps : List Str} {m : Bool} {ca : Ct} {f f' : Fn} (F : FnD P w K mg base k fa fd ps m ca f) (h : ∀ ds S, f' ds S ≠ .bad → f ds S = f' ds S) : FnD P w K mg base k fa fd ps m ca f' :=
  F.imp fun vs H Q E q => by
    obtain ⟨hl, g, S, ds, e, hS, r, k⟩ := q
    refine ⟨hl, g, S, ds, e, hS, r, ?_⟩
    rw [h ds S (fun z => by rw [z] at k; exact k)]
    exact k
end
end Dn

namespace Dn
open PySem L2 PyProof.Rows

/-! ### calls of defs -/
def Res.d : Res → D
  | .f d => d
  | .o xs => .lst xs
def eFn (f : Fn) (a : En → M (List D)) : En → M D := fun env => M.bind (a env) fun ds => M.bind (f ds) fun r => M.ret r.d
def oFn (f : Fn) (a : En → M (List D)) : En → M (List D) := fun env => M.bind (a env) fun ds => M.bind (f ds) fun r => match r with
  | .o xs => M.ret xs
  | .f _ => M.bad
theorem sok_ret {m : Bool} {ca : Ct} {g g' : G} {S : Store} {v : V} {r : Res} {Q : VK} (e : Ext m g g') (hS : SOk ca g' S) (h : RpR g g' v r) (q : okE m ca g Q r.d S) : Q v g'.H := by
  cases r with
  | f d => exact q g' v e hS h
  | o xs =>
    obtain ⟨l, vs, rfl, h1, h2, h3, h4, h5⟩ := h
    exact q (g'.fr l (.lst vs)) _ (ext_fr e h1 h3) (sok_fr hS h2 h3 h4) (rp_lst h3 h5)
/-- the callee writes nothing, or the caller may -/
def Fits (m m' : Bool) : Prop := m = true → m' = true
theorem Ext.fit {m m' : Bool} (h : Fits m m') {g g' : G} (e : Ext m' g g') : Ext m g g' := ⟨e.same, e.stay, e.obs, e.dom, (fun z => e.pure (h z)), e.frz⟩
section
variable {m m' : Bool} {X : Cx} {W : WX} {ca : Ct} {a e : Expr} {es : List Expr} {fa : En → M D} {fs : En → M (List D)} {pos p : Pos} {k : Nat} {f : Addr} {fd : FuncData} {ps : List Str} {fn : Fn} {x : Str}
theorem spOf_run {g : G} {S : Store} {σ : L2.St} {vs : List V} {ds : List D} {Q : VK} (hl : vs.length = ps.length) (hm : Fits m m') (hS : SOk ca g S) (r : RpA g.F g.p vs ds) (h : (fn ds S).sat (fun r S' => okE m ca g Q r.d S') (exE m ca W g σ)) : spOf m' ca ps.length fn vs g.H Q (WE W σ) :=
  ⟨hl, g, S, ds, rfl, hS, r, sat_mono h (fun r S' q g' v e s h => sok_ret (e.fit hm) s h q) fun c S' q g' e s => q g' (e.fit hm) s⟩
theorem spOf_runO {g : G} {S : Store} {σ : L2.St} {vs : List V} {ds : List D} {Q : VK} (hl : vs.length = ps.length) (hm : Fits m m') (hS : SOk ca g S) (r : RpA g.F g.p vs ds) (h : (fn ds S).sat (fun r S' => ∃ xs, r = .o xs ∧ okO m ca g Q xs S') (exE m ca W g σ)) : spOf m' ca ps.length fn vs g.H Q (WE W σ) :=
  ⟨hl, g, S, ds, rfl, hS, r, sat_mono h (fun r S' ⟨xs, er, q⟩ g' v e s h => by
    subst er
    obtain ⟨l, vs, rfl, h1, h2, h3, h4, h5⟩ := h
    exact q g' l vs (e.fit hm) s h1 h2 h3 h4 h5) fun c S' q g' e s => q g' (e.fit hm) s⟩
theorem de_call (F : FnD X.prog X.w X.K X.mg X.base k f fd ps m' ca fn) (hm' : Fits m m') (hn : (e :: es).length = ps.length) (hr : Room k X.A) (hm : X.mg x = some (.ref f)) (hk : PySem.W.keepIn X.K (.ref f) = true) (hb : Binds X.K fd ps []) (tk : Tk X W) (ha : DA m X W ca (e :: es) fs)
    (hln : ∀ env S ds S', fs env S = .ok ds S' → ds.length = (e :: es).length)
    (hg : Gl X x := by rfl) (hdb : (x == ("__debug__" : Str)) = false := by decide) (he : starEach (e :: es) X.env = (false, eval e X.env) :: starEach es X.env := by rfl) (hpl : (backTo pos (starEach es X.env)).any (·.1) = false := by rfl) :
    DE m X W ca (.Call (.Name x p) (e :: es) [] pos) (eFn fn fs) := by
  obtain ⟨t, pa, ka⟩ := ha
  refine ⟨_, pe_callS (E := WE W) F hr hg hm hk hb (fun σ => tkPass tk σ) pa hdb he hpl, fun H0 g S σ env hS hE Q h => ?_⟩
  cases e1 : fs env S with
  | bad => unfold eFn M.bind at h; rw [e1] at h; exact h.elim
  | exc c S1 =>
    refine ka H0 g S σ env hS hE _ ?_
    rw [e1]
    unfold eFn M.bind at h
    rw [e1] at h
    exact h
  | ok ds S1 =>
    refine ka H0 g S σ env hS hE _ ?_
    have h2 := seqE h
    rw [e1] at h2 ⊢
    intro g1 vs e2 s1 r1
    refine spOf_run (by rw [r1.length, hln _ _ _ _ e1]; exact hn) hm' s1 r1 (sat_mono (sat_bind (h2 g1 e2)) (fun r S2 q => q) fun c S2 q => q)
theorem do_call (F : FnD X.prog X.w X.K X.mg X.base k f fd ps m' ca fn) (hm' : Fits m m') (hn : (e :: es).length = ps.length) (hr : Room k X.A) (hm : X.mg x = some (.ref f)) (hk : PySem.W.keepIn X.K (.ref f) = true) (hb : Binds X.K fd ps []) (tk : Tk X W) (ha : DA m X W ca (e :: es) fs)
    (hln : ∀ env S ds S', fs env S = .ok ds S' → ds.length = (e :: es).length)
    (hg : Gl X x := by rfl) (hdb : (x == ("__debug__" : Str)) = false := by decide) (he : starEach (e :: es) X.env = (false, eval e X.env) :: starEach es X.env := by rfl) (hpl : (backTo pos (starEach es X.env)).any (·.1) = false := by rfl) :
    DO m X W ca (.Call (.Name x p) (e :: es) [] pos) (oFn fn fs) := by
  obtain ⟨t, pa, ka⟩ := ha
  refine ⟨_, pe_callS (E := WE W) F hr hg hm hk hb (fun σ => tkPass tk σ) pa hdb he hpl, fun H0 g S σ env hS hE Q h => ?_⟩
  cases e1 : fs env S with
  | bad => unfold oFn M.bind at h; rw [e1] at h; exact h.elim
  | exc c S1 =>
    refine ka H0 g S σ env hS hE _ ?_
    rw [e1]
    unfold oFn M.bind at h
    rw [e1] at h
    exact h
  | ok ds S1 =>
    refine ka H0 g S σ env hS hE _ ?_
    have h2 := seqO h
    rw [e1] at h2 ⊢
    intro g1 vs e2 s1 r1
    refine spOf_runO (by rw [r1.length, hln _ _ _ _ e1]; exact hn) hm' s1 r1 (sat_mono (sat_bind (h2 g1 e2)) (fun r S2 q => ?_) fun c S2 q => q)
    cases r with
    | o xs => exact ⟨xs, rfl, q⟩
    | f d => exact q.elim
/-- how many arguments come -/
theorem aNil_len : ∀ (env : En) (S : Store) (ds : List D) (S' : Store), aNil env S = .ok ds S' → ds.length = 0 := fun env S ds S' h => by cases h; rfl
theorem aCons_len {n : Nat} (h : ∀ (env : En) (S : Store) (ds : List D) (S' : Store), fs env S = .ok ds S' → ds.length = n) : ∀ (env : En) (S : Store) (ds : List D) (S' : Store), aCons fa fs env S = .ok ds S' → ds.length = n + 1 := fun env S ds S' e => by
  unfold aCons M.bind at e
  cases e1 : fa env S with
  | bad => rw [e1] at e; cases e
  | exc c S1 => rw [e1] at e; cases e
  | ok d S1 =>
    rw [e1] at e
    dsimp only at e
    cases e2 : fs env S1 with
    | bad => rw [e2] at e; cases e
    | exc c S1 => rw [e2] at e; cases e
    | ok r S2 =>
      rw [e2] at e; cases e
      rw [List.length_cons, h _ _ _ _ e2]

/-! ### texts -/
theorem lim_big {n : Nat} (h : n ≤ lim) : n ≤ 16777216 := Nat.le_trans h (by decide)
/-- s.m(e), s a text -/
def eM1 (op : Str → D → Option D) (a b : En → M D) : En → M D := fun env => M.bind (a env) fun x => match x with
  | .str s => M.bind (b env) fun y => M.lift (op s y)
  | _ => M.bad
def RelM (r : V → List V → Hp → VK → Prop) (op : Str → D → Option D) : Prop := ∀ (m : Bool) (ca : Ct) (g : G) (S : Store) (s : Str) (y : V) (dy z : D) (Q : VK), SOk ca g S → Rb m g y dy → op s dy = some z → okE m ca g Q z S → r (.str s) [y] g.H Q
theorem runM {b : Expr} {fb : En → M D} {r : V → List V → Hp → VK → Prop} {op : Str → D → Option D} {ta tb : TE} (ho : RelM r op)
    (ka : ∀ H0 g S σ env, SOk ca g S → EnvOk H0 g σ env → ∀ Q : VK, (fa env S).sat (okB m ca g Q) (exE m ca W g σ) → ta σ g.H Q)
    (kb : ∀ H0 g S σ env, SOk ca g S → EnvOk H0 g σ env → ∀ Q : VK, (fb env S).sat (okB m ca g Q) (exE m ca W g σ) → tb σ g.H Q) :
    ∀ H0 g S σ env, SOk ca g S → EnvOk H0 g σ env → ∀ Q : VK, (eM1 op fa fb env S).sat (okE m ca g Q) (exE m ca W g σ) → tM1 r ta tb σ g.H Q := fun H0 g S σ env hS hE Q h => by
  refine ka H0 g S σ env hS hE _ (sat_mono (seqE h) (fun x S1 q g1 v e1 s1 r1 => ?_) fun _ _ q => q)
  have q := q g1 e1
  cases x with
  | str s =>
    cases r1.str
    refine ⟨⟨s, rfl⟩, ?_⟩
    refine kb H0 g1 S1 σ env s1 (hE.ext e1) _ (sat_mono (seqE q) (fun y S2 q2 g2 u e2 s2 r2 => ?_) fun _ _ q => q)
    obtain ⟨z, hz, k⟩ := sat_lift (q2 g2 e2)
    exact ho m ca g2 S2 s u y z Q s2 r2 hz k
  | _ => exact q.elim
def joinO (s : Str) : D → Option D
  | .lst ys => (strsD ys).bind fun zs => if (zs.map (·.length)).sum + zs.length * s.length ≤ lim then some (.str (Txt.join s zs)) else none
  | _ => none
theorem rel_join {K : PySem.W.Frag} : RelM (fun x xs H Q => ∃ a p, ∃ ys : List Str, x = .str a ∧ xs = [.ref p] ∧ (SqL K H p (ys.map V.str) ∨ SqT K H p (ys.map V.str)) ∧ (ys.map (·.length)).sum + ys.length * a.length ≤ 16777216 ∧ Q (.str (Txt.join a ys)) H) joinO := fun m ca g S s y dy z Q hS r e k => by
  cases dy with
  | lst ys =>
    have e : ((strsD ys).bind fun zs => if (zs.map (·.length)).sum + zs.length * s.length ≤ lim then some (D.str (Txt.join s zs)) else none) = some z := e
    cases e1 : strsD ys with
    | none => rw [e1] at e; cases e
    | some zs =>
      rw [e1, Option.bind_some] at e
      split at e
      · rename_i c
        cases e
        obtain ⟨a, vs, rfl, h1, h2⟩ := r.lst hS
        cases strs_v h2 e1
        exact ⟨s, a, zs, rfl, rfl, .inl (SqL.of h1), lim_big c, k g _ (Ext.refl _) hS (.str _)⟩
      · cases e
  | _ => cases e
theorem de_join {b : Expr} {fb : En → M D} {apos : Pos} (ha : DB m X W ca a fa) (hb : DB m X W ca b fb) (hs : starEach [b] X.env = [(false, eval b X.env)] := by rfl) (hbase : attributeBase a "join" X.env (eval a X.env) = eval a X.env := by rfl) (hline : (apos.endLine == pos.line) = true := by rfl) :
    DE m X W ca (.Call (.Attribute a "join" apos) [b] [] pos) (eM1 joinO fa fb) := by
  obtain ⟨ta, pa, ka⟩ := ha
  obtain ⟨tb, pb, kb⟩ := hb
  exact ⟨_, pe_join pa pb hs hbase hline, runM (b := b) rel_join ka kb⟩
/-- s.split(sep), a new list -/
def oSplit (a b : En → M D) : En → M (List D) := fun env => M.bind (a env) fun x => match x with
  | .str s => M.bind (b env) fun y => match y with
    | .str t => if t.length ≠ 0 ∧ s.length + 2 ≤ lim then M.ret ((Txt.split s t).map D.str) else M.bad
    | _ => M.bad
  | _ => M.bad
theorem rpA_strs {F : Hp} {q : Pi} : ∀ (xs : List Str), RpA F q (xs.map V.str) (xs.map D.str)
  | [] => .nil
  | x :: xs => .cons (.str x) (rpA_strs xs)
end
end Dn

namespace Dn
open PySem L2 PyProof.Rows
section
variable {q m : Bool} {X : Cx} {W : WX} {ca : Ct} {a b e : Expr} {fa fb : En → M D} {pos : Pos} {st : Stmt} {f : En → M Fl}
/-! ### a list or a text cut -/
def eSlA (a : En → M D) (lo hi : En → M (Option Int)) : En → M D := fun env => M.bind (a env) fun x => M.bind (lo env) fun l => M.bind (hi env) fun u => match x with
  | .lst xs => M.ret (.lst (cutD xs l u))
  | .scr ns => M.ret (.lst ((cutI ns l u).map D.int))
  | .str s => if s.length ≤ lim then M.ret (.str (cutS s l u)) else M.bad
  | _ => M.bad
theorem de_slA {lo hi : Option Expr} {fl fh : En → M (Option Int)} {p2 : Pos} (ha : DB m X W ca a fa) (hl : DP m X W ca lo fl) (hh : DP m X W ca hi fh) (hK : ca.K = X.K := by rfl) : DE m X W ca (.Subscript a (.Slice lo hi none p2) pos) (eSlA fa fl fh) := by
  obtain ⟨t1, p1, k1⟩ := ha
  obtain ⟨t2, q2, k2⟩ := hl
  obtain ⟨t3, p3, k3⟩ := hh
  refine ⟨_, pe_slice (sl_list.or sl_str) p1 q2 p3, fun H0 g S σ env hS hE Q h => ?_⟩
  refine k1 H0 g S σ env hS hE _ (sat_mono (seqE h) (fun x S1 q g1 v e1 s1 r1 => ?_) fun _ _ q => q)
  refine k2 H0 g1 S1 σ env s1 (hE.ext e1) _ (sat_mono (seqE (q g1 e1)) (fun l S2 q g2 e2 s2 => ?_) fun _ _ q => q)
  refine k3 H0 g2 S2 σ env s2 (hE.ext (e1.trans e2)) _ (sat_mono (seqE (q g2 e2)) (fun u S3 q g3 e3 s3 => ?_) fun _ _ q => q)
  have q := q g3 e3
  have r1 := r1.ext s3 (e2.trans e3)
  cases x with
  | lst xs =>
    obtain ⟨a, vs, rfl, h, t⟩ := r1.lst s3
    refine .inl ⟨a, vs, rfl, SqL.of h, fun z hz => ?_⟩
    exact (show okE m ca g3 Q (.lst (cutD xs l u)) S3 from q) (g3.fz z _) _ (ext_fz s3 hz _) (sok_fz s3 hz _) (rp_lst (s3.free hz) (cut_rp t l u))
  | scr ns =>
    have r := r1.h s3
    cases r with
    | scr h =>
      have hq := (s3.sc _ _ h).sq
      rw [hK] at hq
      refine .inl ⟨_, _, rfl, hq, fun z hz => ?_⟩
      have e9 : cutD (ns.map D.int) l u = (cutI ns l u).map D.int := by unfold cutD cutI; simp [List.map_take, List.map_drop]
      refine (show okE m ca g3 Q (.lst ((cutI ns l u).map D.int)) S3 from q) (g3.fz z _) _ (ext_fz s3 hz _) (sok_fz s3 hz _) (rp_lst (s3.free hz) ?_)
      rw [← e9]
      exact cut_rp (RpA.ints ns) l u
  | str xs =>
    cases r1.str
    dsimp only at q
    by_cases c : xs.length ≤ lim
    · rw [if_pos c] at q
      exact .inr ⟨xs, rfl, lim_lt c, (show okE m ca g3 Q (.str (cutS xs l u)) S3 from q) g3 _ (Ext.refl _) s3 (.str _)⟩
    · rw [if_neg c] at q; exact q.elim
  | _ => exact q.elim
/-! ### list(x), tuple(x) -/
def oListF (a : En → M D) : En → M (List D) := fun env => M.bind (a env) fun x => match x with
  | .lst xs => M.ret xs
  | .tup xs => M.ret xs
  | _ => M.bad
theorem do_listF {p : Pos} (ha : DB m X W ca a fa) (hK : ca.K = X.K := by rfl) (hg : Gl X "list" := by rfl) (hm : X.mg "list" = none := by assumption) (hs : starEach [a] X.env = (false, eval a X.env) :: starEach [] X.env := by rfl) : DO m X W ca (.Call (.Name "list" p) [a] [] pos) (oListF fa) := by
  obtain ⟨t, pa, k⟩ := ha
  refine ⟨_, pe_callTy call_list_of hg hm (by decide +kernel) (pa_cons pa pa_nil hs) (he := hs), fun H0 g S σ env hS hE Q h => ?_⟩
  refine k H0 g S σ env hS hE _ (sat_mono (seqO h) (fun x S1 q g1 v e1 s1 r1 => ?_) fun _ _ q => q)
  have q := q g1 e1
  cases x with
  | lst xs =>
    obtain ⟨l, vs, rfl, h1, h2⟩ := r1.lst s1
    exact ⟨l, vs, rfl, .inl (SqL.of h1), fun z hz => (show okO m ca g1 Q xs S1 from q) (g1.nw z _) z _ (ext_nw s1 hz _) (sok_nw s1 hz _) hz upd_same (s1.free hz) (s1.nop hz) h2⟩
  | tup xs =>
    obtain ⟨l, vs, rfl, h1, h2⟩ := r1.tup s1
    exact ⟨l, vs, rfl, .inr (SqT.of h1), fun z hz => (show okO m ca g1 Q xs S1 from q) (g1.nw z _) z _ (ext_nw s1 hz _) (sok_nw s1 hz _) hz upd_same (s1.free hz) (s1.nop hz) h2⟩
  | _ => exact q.elim
def eTupF (a : En → M D) : En → M D := fun env => M.bind (a env) fun x => match x with
  | .lst xs => M.ret (.tup xs)
  | .tup xs => M.ret (.tup xs)
  | _ => M.bad
theorem de_tupF {p : Pos} (ha : DB m X W ca a fa) (hK : ca.K = X.K := by rfl) (hg : Gl X "tuple" := by rfl) (hm : X.mg "tuple" = none := by assumption) (hs : starEach [a] X.env = (false, eval a X.env) :: starEach [] X.env := by rfl) : DE m X W ca (.Call (.Name "tuple" p) [a] [] pos) (eTupF fa) := by
  obtain ⟨t, pa, k⟩ := ha
  refine ⟨_, pe_callTy call_tuple_of hg hm (by decide +kernel) (pa_cons pa pa_nil hs) (he := hs), fun H0 g S σ env hS hE Q h => ?_⟩
  refine k H0 g S σ env hS hE _ (sat_mono (seqE h) (fun x S1 q g1 v e1 s1 r1 => ?_) fun _ _ q => q)
  have q := q g1 e1
  cases x with
  | lst xs =>
    obtain ⟨l, vs, rfl, h1, h2⟩ := r1.lst s1
    exact ⟨l, vs, rfl, .inl ⟨SqL.of h1, fun z hz => (show okE m ca g1 Q (.tup xs) S1 from q) (g1.fz z _) _ (ext_fz s1 hz _) (sok_fz s1 hz _) (rp_tup (s1.free hz) h2)⟩⟩
  | tup xs =>
    rcases r1 with r1 | ⟨_, _, _, _, h, _⟩ | ⟨_, _, _, _, h, _⟩
    · cases r1 with
      | tup h1 h2 => exact ⟨_, _, rfl, .inr ⟨SqT.of (s1.same _ _ h1), (show okE m ca g1 Q (.tup xs) S1 from q) g1 _ (Ext.refl _) s1 (.tup h1 h2)⟩⟩
    · cases h
    · cases h
  | _ => exact q.elim
/-! ### split, index -/
theorem do_split {apos : Pos} (ha : DB m X W ca a fa) (hb : DB m X W ca b fb) (hs : starEach [b] X.env = [(false, eval b X.env)] := by rfl) (hbase : attributeBase a "split" X.env (eval a X.env) = eval a X.env := by rfl) (hline : (apos.endLine == pos.line) = true := by rfl) :
    DO m X W ca (.Call (.Attribute a "split" apos) [b] [] pos) (oSplit fa fb) := by
  obtain ⟨ta, pa, ka⟩ := ha
  obtain ⟨tb, pb, kb⟩ := hb
  refine ⟨_, pe_split pa pb hs hbase hline, fun H0 g S σ env hS hE Q h => ?_⟩
  refine ka H0 g S σ env hS hE _ (sat_mono (seqO h) (fun x S1 q g1 v e1 s1 r1 => ?_) fun _ _ q => q)
  have q := q g1 e1
  cases x with
  | str s =>
    cases r1.str
    refine ⟨⟨s, rfl⟩, ?_⟩
    refine kb H0 g1 S1 σ env s1 (hE.ext e1) _ (sat_mono (seqO q) (fun y S2 q2 g2 u e2 s2 r2 => ?_) fun _ _ q => q)
    have q2 := q2 g2 e2
    cases y with
    | str t =>
      cases r2.str
      dsimp only at q2
      by_cases c : t.length ≠ 0 ∧ s.length + 2 ≤ lim
      · rw [if_pos c] at q2
        refine ⟨s, t, rfl, rfl, by simpa using c.1, lim_lt c.2, fun z hz => ?_⟩
        exact (show okO m ca g2 Q ((Txt.split s t).map D.str) S2 from q2) (g2.nw z _) z _ (ext_nw s2 hz _) (sok_nw s2 hz _) hz upd_same (s2.free hz) (s2.nop hz) (rpA_strs _)
      · rw [if_neg c] at q2; exact q2.elim
    | _ => exact q2.elim
  | _ => exact q.elim
def findF (x : D) : List D → Option Nat
  | [] => none
  | y :: ys => if eqF y x = true then some 0 else (findF x ys).map (· + 1)
theorem findF_is {x : D} : ∀ {ys : List D} {j : Nat}, findF x ys = some j → (∃ z, ys[j]? = some z ∧ eqF z x = true) ∧ ∀ m z, m < j → ys[m]? = some z → eqF z x = false
  | [], _, h => by cases h
  | y :: ys, j, h => by
    unfold findF at h
    by_cases c : eqF y x = true
    · rw [if_pos c] at h; cases h
      exact ⟨⟨y, rfl, c⟩, fun m z hm => absurd hm (Nat.not_lt_zero _)⟩
    · rw [if_neg c] at h
      cases e : findF x ys with
      | none => rw [e] at h; cases h
      | some i =>
        rw [e] at h; cases h
        obtain ⟨⟨z, h1, h2⟩, h3⟩ := findF_is e
        refine ⟨⟨z, by simpa using h1, h2⟩, fun m w hm hw => ?_⟩
        cases m with
        | zero => cases hw; simpa using c
        | succ m => exact h3 m w (Nat.lt_of_succ_lt_succ hm) (by simpa using hw)
def eIndex (a b : En → M D) : En → M D := fun env => M.bind (a env) fun x => match x with
  | .lst xs => M.bind (b env) fun y => if flatD y = true ∧ xs.all flatD = true then M.lift ((findF y xs).map fun j => .int (j : Nat)) else M.bad
  | _ => M.bad
/-! ### walks of anything -/
def iA (a : En → M D) : En → M (List D) := fun env => M.bind (a env) fun x => match x with
  | .lst xs => M.ret xs
  | .scr ns => M.ret (ns.map D.int)
  | .tup xs => M.ret xs
  | .str s => M.ret (signsD s)
  | _ => M.bad
theorem pi_or {tg : Expr} {w1 w2 : TI} (h1 : PI X tg a w1) (h2 : PI X tg a w2) : PI X tg a (fun σ H R => w1 σ H R ∨ w2 σ H R) := ⟨fun pins s σ H R I h => by
  rcases h with h | h
  · exact h1.run pins s σ H R I h
  · exact h2.run pins s σ H R I h⟩
theorem di_any (ha : DE m X W ca a fa) (hK : ca.K = X.K := by rfl) : DI q m X W ca a (iA fa) := by
  obtain ⟨w1, p1, k1⟩ := di_list (q := q) ha hK
  obtain ⟨w2, p2, k2⟩ := di_tup (q := q) ha
  obtain ⟨w3, p3, k3⟩ := di_str (q := q) ha
  refine ⟨_, fun tg => pi_or (p1 tg) (pi_or (p2 tg) (p3 tg)), fun H0 g S σ env hS hE R h => ?_⟩
  unfold iA at h
  cases e : fa env S with
  | bad => unfold M.bind at h; rw [e] at h; exact h.elim
  | exc c S' => exact .inl (k1 H0 g S σ env hS hE R (by unfold iL; unfold M.bind at h ⊢; rw [e] at h ⊢; exact h))
  | ok x S' =>
    cases x with
    | lst xs => exact .inl (k1 H0 g S σ env hS hE R (by unfold iL; unfold M.bind at h ⊢; rw [e] at h ⊢; exact h))
    | scr xs => exact .inl (k1 H0 g S σ env hS hE R (by unfold iL; unfold M.bind at h ⊢; rw [e] at h ⊢; exact h))
    | tup xs => exact .inr (.inl (k2 H0 g S σ env hS hE R (by unfold iT; unfold M.bind at h ⊢; rw [e] at h ⊢; exact h)))
    | str xs => exact .inr (.inr (k3 H0 g S σ env hS hE R (by unfold iS; unfold M.bind at h ⊢; rw [e] at h ⊢; exact h)))
    | _ => unfold M.bind at h; rw [e] at h; exact h.elim
/-! ### targets' lengths, a list made data at once, a tuple unpacked -/
theorem bNil_len : ∀ (ds : List D) (env env' : En), bNil ds env = some env' → ds.length = 0 := fun ds env env' h => by
  cases ds with
  | nil => rfl
  | cons _ _ => cases h
theorem bCons_len {b : D → En → Option En} {r : List D → En → Option En} {n : Nat} (h : ∀ (ds : List D) (env env' : En), r ds env = some env' → ds.length = n) : ∀ (ds : List D) (env env' : En), bCons b r ds env = some env' → ds.length = n + 1 := fun ds env env' e => by
  cases ds with
  | nil => cases e
  | cons d ds =>
    have e : (b d env).bind (r ds) = some env' := e
    cases e1 : b d env with
    | none => rw [e1] at e; cases e
    | some env1 =>
      rw [e1] at e
      rw [List.length_cons, h _ _ _ e]
def sThenFz (i : Nat) (f : En → M Fl) : En → M Fl := fun env => M.bind (f env) fun fl => match fl with
  | .nx env' => M.ret (.nx (fzE i env'))
  | o => M.ret o
theorem ds_thenFz (i : Nat) (h : DS m X W ca st f) : DS m X W ca st (sThenFz i f) := by
  obtain ⟨t, p, k⟩ := h
  refine ⟨t, p, fun g0 g S σ env e0 hS hE D h => ?_⟩
  refine k g0 g S σ env e0 hS hE D (sat_mono (sat_bind h) (fun fl S1 q => ?_) fun _ _ q => q)
  cases fl with
  | nx env' =>
    intro g' σ' e1 m1 s1 hE1
    obtain ⟨g'', h1, h2, h3, h4, h5⟩ := fz_ok i e1 s1 hE1
    rw [← h1]
    exact (show okS m ca W g0 g D (.nx (fzE i env')) S1 from q) g'' σ' h2 (m1.trans h3) h4 h5
  | rt d => exact q
  | rtO xs => exact q
  | bk env' => exact q
  | ct env' => exact q
  | ex c env' => exact q
def sUnp (a : En → M D) (b : D → En → Option En) : En → M Fl := fun env => liftS (a env) env fun d => match b d env with
  | some env' => M.ret (.nx env')
  | none => M.bad
theorem ds_unp {tg : Expr} {bb : D → En → Option En} {ks : List Nat} (ha : DE m X W ca a fa) (hg : DG X tg bb ks) (hs : swapsWithSole [tg] a pos.line X.env = pure false := by rfl) (hw : swappedStores [tg] a X.env = pure none := by rfl)
    (h1 : (assignEach [tg] X.env).map (·.2) = [assign tg X.env] := by rfl) : DS m X W ca (.Assign [tg] a pos) (sUnp fa bb) := by
  obtain ⟨t, p, k⟩ := ha
  obtain ⟨t2, p2, k2⟩ := hg
  refine ⟨_, ps_asg p p2 hs hw h1, fun g0 g S σ env e0 hS hE D h => ?_⟩
  refine k g0.H g S σ env hS hE _ (sat_mono (stE e0 hE h) (fun d S1 q g1 v e1 s1 r1 => ?_) fun _ _ q => q)
  have q := q g1 e1
  cases eb : bb d env with
  | none => rw [eb] at q; exact q.elim
  | some env' =>
    rw [eb] at q
    exact k2 g0.H g1 σ env v d env' s1.same (hE.ext e1) r1 eb _ fun σ' hE' _ => (show okS m ca W g0 g1 D (.nx env') S1 from q) g1 σ' (e0.trans e1) (Mo.refl _) s1 hE'
end
end Dn

namespace Dn
open PySem L2 PyProof.Rows

/-! ### a part that writes nothing, where more is allowed -/
section
variable {m : Bool} {X : Cx} {W : WX} {ca : Ct} {e : Expr}
theorem DE.down {f : En → M D} (h : DE true X W ca e f) : DE m X W ca e f := by
  obtain ⟨t, p, k⟩ := h
  exact ⟨t, p, fun H0 g S σ env hS hE Q h => k H0 g S σ env hS hE Q (sat_mono h (fun d S' q g' v e s r => q g' v e.down s r) fun c S' q g' e s => q g' e.down s)⟩
theorem DT.down {f : En → M Bool} (h : DT true X W ca e f) : DT m X W ca e f := by
  obtain ⟨t, p, k⟩ := h
  exact ⟨t, p, fun H0 g S σ env hS hE Q h => k H0 g S σ env hS hE Q (sat_mono h (fun d S' q g' e s => q g' e.down s) fun c S' q g' e s => q g' e.down s)⟩
theorem DO.down {f : En → M (List D)} (h : DO true X W ca e f) : DO m X W ca e f := by
  obtain ⟨t, p, k⟩ := h
  exact ⟨t, p, fun H0 g S σ env hS hE Q h => k H0 g S σ env hS hE Q (sat_mono h (fun d S' q g' a vs e s n h1 h2 h3 r => q g' a vs e.down s n h1 h2 h3 r) fun c S' q g' e s => q g' e.down s)⟩
theorem DK.down {f : En → M (List (Key × D))} (h : DK true X W ca e f) : DK m X W ca e f := by
  obtain ⟨t, p, k⟩ := h
  exact ⟨t, p, fun H0 g S σ env hS hE Q h => k H0 g S σ env hS hE Q (sat_mono h (fun d S' q g' a vs e s n h1 h2 h3 r => q g' a vs e.down s n h1 h2 h3 r) fun c S' q g' e s => q g' e.down s)⟩
theorem DA.down {es : List Expr} {f : En → M (List D)} (h : DA true X W ca es f) : DA m X W ca es f := by
  obtain ⟨t, p, k⟩ := h
  exact ⟨t, p, fun H0 g S σ env hS hE Q h => k H0 g S σ env hS hE Q (sat_mono h (fun d S' q g' v e s r => q g' v e.down s r) fun c S' q g' e s => q g' e.down s)⟩
end

/-! ### fields -/
def putW (f : Str) (w : FV) : List (Str × FV) → List (Str × FV)
  | [] => [(f, w)]
  | (g, x) :: r => if g = f then (g, w) :: r else (g, x) :: putW f w r
theorem look_ne {β : Type} {g k : Str} (x : β) (r : List (Str × β)) (h : g ≠ k) : List.lookup g ((k, x) :: r) = List.lookup g r := by
  have : (g == k) = false := beq_eq_false_iff_ne.mpr h
  simp only [List.lookup, this]
theorem look_eq {β : Type} (g : Str) (x : β) (r : List (Str × β)) : List.lookup g ((g, x) :: r) = some x := by
  have : (g == g) = true := beq_iff_eq.mpr rfl
  simp only [List.lookup, this]
theorem lookup_putW (f g : Str) (w : FV) : ∀ ws : List (Str × FV), (putW f w ws).lookup g = if g = f then some w else ws.lookup g
  | [] => by
    unfold putW
    by_cases h : g = f
    · subst h; rw [look_eq, if_pos rfl]
    · rw [look_ne _ _ h, if_neg h]
  | (k, x) :: r => by
    unfold putW
    by_cases hk : k = f
    · subst hk
      rw [if_pos rfl]
      by_cases h : g = k
      · subst h; rw [look_eq, if_pos rfl]
      · rw [look_ne _ _ h, look_ne _ _ h, if_neg h]
    · rw [if_neg hk]
      by_cases h : g = k
      · subst h; rw [look_eq, look_eq, if_neg hk]
      · rw [look_ne _ _ h, look_ne _ _ h, lookup_putW f g w r]
theorem putF_same {f : Str} {v : V} : ∀ {fs : List (Str × V)}, fs.lookup f = some v → putF f v fs = fs
  | [], h => by simp at h
  | (k, x) :: r, h => by
    show (if k = f then (k, v) :: r else (k, x) :: putF f v r) = _
    by_cases hk : k = f
    · subst hk
      rw [look_eq] at h
      cases h
      rw [if_pos rfl]
    · rw [if_neg hk]
      rw [look_ne _ _ (Ne.symm hk)] at h
      rw [putF_same h]
theorem FsOk.get {g : G} {n : Nat} : ∀ {vs : List (Str × V)} {ws : List (Str × FV)}, FsOk g n vs ws → ∀ {f : Str} {w : FV}, ws.lookup f = some w → ∃ v, vs.lookup f = some v ∧ FvOk g n f v w
  | _, _, .nil, _, _, h => by simp at h
  | _, _, .cons (f := f0) (v := v0) (w := w0) (vs := vs) (ws := ws) h t z, f, w, e => by
    by_cases c : f = f0
    · subst c
      rw [look_eq] at e
      cases e
      exact ⟨v0, look_eq _ _ _, h⟩
    · rw [look_ne _ _ c] at e ⊢
      exact FsOk.get t e
theorem FsOk.length {g : G} {n : Nat} : ∀ {vs : List (Str × V)} {ws : List (Str × FV)}, FsOk g n vs ws → vs.length = ws.length
  | _, _, .nil => rfl
  | _, _, .cons _ t _ => by simp [FsOk.length t]
theorem FsOk.move {g g' : G} {n : Nat} {f : Str} (mv : ∀ f' v' w', f' ≠ f → FvOk g n f' v' w' → FvOk g' n f' v' w') : ∀ {vs : List (Str × V)} {ws : List (Str × FV)}, FsOk g n vs ws → ws.lookup f = none → FsOk g' n vs ws
  | _, _, .nil, _ => .nil
  | _, _, .cons (f := f0) h t z, e => by
    by_cases c : f = f0
    · subst c; rw [look_eq] at e; cases e
    · rw [look_ne _ _ c] at e
      exact .cons (mv _ _ _ (Ne.symm c) h) (FsOk.move mv t e) z
theorem FsOk.put {g g' : G} {n : Nat} {f : Str} {v : V} {w : FV} (mv : ∀ f' v' w', f' ≠ f → FvOk g n f' v' w' → FvOk g' n f' v' w') (r : FvOk g' n f v w) : ∀ {vs : List (Str × V)} {ws : List (Str × FV)}, FsOk g n vs ws → FsOk g' n (putF f v vs) (putW f w ws)
  | _, _, .nil => .cons r .nil rfl
  | _, _, .cons (f := f0) (v := v0) (w := w0) (vs := vs) (ws := ws) h t z => by
    show FsOk g' n (if f0 = f then (f0, v) :: vs else (f0, v0) :: putF f v vs) (if f0 = f then (f0, w) :: ws else (f0, w0) :: putW f w ws)
    by_cases c : f0 = f
    · subst c
      rw [if_pos rfl, if_pos rfl]
      exact .cons r (FsOk.move mv t z) z
    · rw [if_neg c, if_neg c]
      refine .cons (mv _ _ _ c h) (FsOk.put mv r t) ?_
      rw [lookup_putW, if_neg c, z]
/-- a field of object n, or its own list, is written -/
structure Wr (g : G) (n : Nat) (f : Str) (a : Addr) (z : Option Addr) (H' : Hp) (p' : Pi) : Prop where
  ea : g.p (.ob n) = some a
  stay : ∀ b o, b ≠ a → z ≠ some b → g.H b = some o → H' b = some o
  wz : ∀ l, z = some l → g.p (.fl n f) = some l ∧ (∃ o, H' l = some o) ∧ ∀ o u, g.H l ≠ some (.frz o u)
  ob : ∀ k, p' (.ob k) = g.p (.ob k)
  fl : ∀ k f', ¬ (k = n ∧ f' = f) → p' (.fl k f') = g.p (.fl k f')
  new : ∀ q, p' (.fl n f) = some q → g.p (.fl n f) = some q ∨ ((∀ l, g.p l ≠ some q) ∧ g.F q = none ∧ ∃ o, g.H q = some o)
  sc : ∀ b ns, p'.sc b ns ↔ g.p.sc b ns
section
variable {ca : Ct} {g : G} {S : Store} {n : Nat} {f : Str} {a : Addr} {z : Option Addr} {H' : Hp} {p' : Pi} {ob : Ob} {C dx : Addr} {fs : List (Str × V)} {v : V} {w : FV}
theorem Wr.pi (r : Wr g n f a z H' p') : PiLe g.p p' := ⟨fun k b h => by rw [r.ob]; exact h, fun b ns h => (r.sc b ns).mpr h⟩
theorem Wr.some' (r : Wr g n f a z H' p') (hA : ∃ o, H' a = some o) {b : Addr} {o : HO} (h : g.H b = some o) : ∃ o', H' b = some o' := by
  by_cases c : b = a
  · subst c; exact hA
  · by_cases d : z = some b
    · exact (r.wz b d).2.1
    · exact ⟨o, r.stay b o c d h⟩
theorem Wr.none' (r : Wr g n f a z H' p') (hA : ∃ o, H' a = some o) {b : Addr} (h : H' b = none) : g.H b = none := by
  cases c : g.H b with
  | none => rfl
  | some o =>
    obtain ⟨o', q⟩ := r.some' hA c
    rw [q] at h
    cases h
theorem sok_put (hS : SOk ca g S) (r : Wr g n f a z H' p') (e : S[n]? = some ob) (eH : g.H a = some (.ins C dx fs)) (hc : C = ca ob.cls) (hf : FsOk g n fs ob.fs)
    (hA : H' a = some (.ins C dx (putF f v fs))) (hw : FvOk ⟨g.F, H', p'⟩ n f v w) : SOk ca ⟨g.F, H', p'⟩ (S.set n ⟨ob.cls, putW f w ob.fs⟩) := by
  have hn : n < S.length := (List.getElem?_eq_some_iff.mp e).1
  have aw : ∃ o, H' a = some o := ⟨_, hA⟩
  have old : ∀ l b, p' l = some b → g.p l = some b ∨ (l = .fl n f ∧ (∀ l', g.p l' ≠ some b) ∧ g.F b = none ∧ ∃ o, g.H b = some o) := fun l b h => by
    cases l with
    | ob k => left; rw [← r.ob]; exact h
    | fl k f' =>
      by_cases c : k = n ∧ f' = f
      · obtain ⟨rfl, rfl⟩ := c
        rcases r.new b h with q | q
        · exact .inl q
        · exact .inr ⟨rfl, q⟩
      · left; rw [← r.fl k f' c]; exact h
  have keep : ∀ l b o, l ≠ .fl n f → l ≠ .ob n → g.p l = some b → g.H b = some o → H' b = some o := fun l b o h1 h2 h3 h4 => by
    refine r.stay b o (fun c => ?_) (fun c => ?_) h4
    · subst c; exact h2 (hS.inj _ _ _ h3 r.ea)
    · exact h1 (hS.inj _ _ _ h3 (r.wz b c).1)
  have fv : ∀ k f' v' w', ¬ (k = n ∧ f' = f) → FvOk g k f' v' w' → FvOk ⟨g.F, H', p'⟩ k f' v' w' := fun k f' v' w' c h => by
    cases w' with
    | f d => exact Rp.mono (Same.refl _) r.pi h
    | o xs =>
      obtain ⟨l, vs, h1, h2, h3, h4⟩ := h
      exact ⟨l, vs, h1, by show p' _ = _; rw [r.fl k f' c]; exact h2, keep (.fl k f') l _ (fun q => c (by cases q; exact ⟨rfl, rfl⟩)) (fun q => nomatch q) h2 h3, RpA.mono (Same.refl _) r.pi h4⟩
    | k xs =>
      obtain ⟨l, vs, h1, h2, h3, h4⟩ := h
      exact ⟨l, vs, h1, by show p' _ = _; rw [r.fl k f' c]; exact h2, keep (.fl k f') l _ (fun q => c (by cases q; exact ⟨rfl, rfl⟩)) (fun q => nomatch q) h2 h3, RpK.mono (Same.refl _) r.pi h4⟩
  refine ⟨fun b u h => ?_, fun l l' b h1 h2 => ?_, fun l b h => ?_, fun l b h => ?_, fun k ob' h hk => ?_, fun b ns h => ?_, fun k b h => ?_, fun k f' b h => ?_, fun k ob' h hk => ?_⟩
  · refine r.stay b u (fun c => ?_) (fun c => ?_) (hS.same _ _ h)
    · subst c; have q := hS.out _ _ r.ea; rw [show g.F b = some u from h] at q; cases q
    · have q := hS.out _ _ (r.wz b c).1; rw [show g.F b = some u from h] at q; cases q
  · rcases old l b h1 with q1 | ⟨e1, q1, -⟩ <;> rcases old l' b h2 with q2 | ⟨e2, q2, -⟩
    · exact hS.inj _ _ _ q1 q2
    · exact absurd q1 (q2 l)
    · exact absurd q2 (q1 l')
    · rw [e1, e2]
  · rcases old l b h with q | ⟨-, -, q, -⟩
    · exact hS.out _ _ q
    · exact q
  · rcases old l b h with q | ⟨-, -, -, o, q⟩
    · obtain ⟨o, h1⟩ := hS.live _ _ q
      exact r.some' aw h1
    · exact r.some' aw q
  · by_cases c : k = n
    · subst c
      rw [List.getElem?_set_self hn] at h
      cases h
      exact ⟨a, dx, _, by show p' _ = _; rw [r.ob]; exact r.ea, by rw [← hc]; exact hA, FsOk.put (fun f' v' w' c h => fv k f' v' w' (fun q => c q.2) h) hw hf⟩
    · rw [List.getElem?_set_ne (Ne.symm c)] at h
      obtain ⟨b, dy, gs, h1, h2, h3⟩ := hS.obs k ob' h hk
      refine ⟨b, dy, gs, by show p' _ = _; rw [r.ob]; exact h1, keep (.ob k) b _ (fun q => nomatch q) (fun q => c (by cases q; rfl)) h1 h2, ?_⟩
      clear h1 h2 h
      generalize ob'.fs = ws at h3
      induction h3 with
      | nil => exact .nil
      | cons h t z ih => exact .cons (fv k _ _ _ (fun q => c q.1) h) ih z
  · refine (hS.sc b ns ((r.sc b ns).mp h)).keep fun b' o' u' h' => r.stay b' _ (fun c => ?_) (fun c => ?_) h'
    · subst c; rw [eH] at h'; cases h'
    · exact (r.wz b' c).2.2 _ _ h'
  · rw [List.length_set]
    exact hS.lt k b (by rw [← r.ob]; exact h)
  · rw [List.length_set]
    rcases old _ b h with q | ⟨q, -⟩
    · exact hS.lf k f' b q
    · cases q; exact hn
  · by_cases c : k = n
    · subst c
      rw [List.getElem?_set_self hn] at h
      cases h
      obtain ⟨b, h1, h2⟩ := hS.raw k ob e hk
      rw [r.ea] at h1
      cases h1
      rcases h2 with ⟨_, _, _, h3, _⟩ | ⟨_, _, _, h3, _⟩ | ⟨_, _, _, _, h3, _⟩ <;> (rw [eH] at h3; cases h3)
    · rw [List.getElem?_set_ne (Ne.symm c)] at h
      obtain ⟨b, h1, h2⟩ := hS.raw k ob' h hk
      exact ⟨b, by show p' _ = _; rw [r.ob]; exact h1, RawAt.mv (g := g) (g' := ⟨g.F, H', p'⟩) (Same.refl _) r.pi (fun o x => keep (.ob k) b o (fun q => nomatch q) (fun q => c (by cases q; rfl)) h1 x) h2⟩
theorem ext_put {g0 : G} (e0 : Ext false g0 g) (r : Wr g n f a z H' p') (hA : ∃ o, H' a = some o) (hz : ∀ x y, g.H a ≠ some (.frz x y)) (hq : ∀ q, p' (.fl n f) = some q → g.p (.fl n f) = some q ∨ g0.H q = none) : Ext false g0 ⟨g.F, H', p'⟩ :=
  ⟨e0.same, fun b o h1 h2 h3 => by
    obtain ⟨k1, k2, k3⟩ := e0.stay b o h1 h2 h3
    refine ⟨r.stay b o (fun c => ?_) (fun c => ?_) k1, k2, fun l h => ?_⟩
    · subst c; exact k3 _ r.ea
    · exact k3 _ (r.wz b c).1
    · cases l with
      | ob k => exact k3 (.ob k) (by rw [← r.ob]; exact h)
      | fl k f' =>
        by_cases c : k = n ∧ f' = f
        · obtain ⟨rfl, rfl⟩ := c
          rcases hq b h with q | q
          · exact k3 _ q
          · rw [h1] at q; cases q
        · exact k3 (.fl k f') (by rw [← r.fl k f' c]; exact h), e0.obs.trans r.pi, fun b h => e0.dom b (r.none' hA h), (fun h => nomatch h), fun b x y h => by
    have h1 := e0.frz b x y h
    exact r.stay b _ (fun c => hz x y (by rw [← c]; exact h1)) (fun c => (r.wz b c).2.2 x y h1) h1⟩
theorem mo_put (r : Wr g n f a z H' p') (hA : ∃ o, H' a = some o) (hz : ∀ x y, g.H a ≠ some (.frz x y)) : Mo false g ⟨g.F, H', p'⟩ :=
  ⟨Same.refl _, r.pi, fun b h => r.none' hA h, (fun h => nomatch h), fun b x y h => r.stay b _ (fun c => hz x y (by rw [← c]; exact h)) (fun c => (r.wz b c).2.2 x y h) h⟩
end
end Dn

namespace Dn
open PySem L2 PyProof.Rows
/-! ### reading and writing fields -/
def objF {α : Type} (C : Str) (d : D) (k : Nat → Ob → M α) : M α := fun S => match d with
  | .obj n => match S[n]? with
    | some ob => if ob.cls = C then k n ob S else .bad
    | none => .bad
  | _ => .bad
theorem objF_get {α : Type} {C : Str} {d : D} {k : Nat → Ob → M α} {S : Store} {P : α → Store → Prop} {E : Str → Store → Prop} (h : (objF C d k S).sat P E) : ∃ n ob, d = .obj n ∧ S[n]? = some ob ∧ ob.cls = C ∧ (k n ob S).sat P E := by
  unfold objF at h
  cases d with
  | obj n =>
    dsimp only at h
    cases e : S[n]? with
    | none => rw [e] at h; exact h.elim
    | some ob =>
      rw [e] at h
      by_cases c : ob.cls = C
      · exact ⟨n, ob, rfl, e, c, by simpa [c] using h⟩
      · simp [c] at h; exact h.elim
  | _ => exact h.elim
def fvD : Option FV → M D
  | some (.f d) => M.ret d
  | some (.o xs) => M.ret (.lst xs)
  | some (.k kv) => M.ret (.dct kv)
  | none => M.bad
def fvE : Option FV → M D
  | some (.f d) => M.ret d
  | _ => M.bad
/-- o.f, read for now -/
def eFld (C f : Str) (fo : En → M D) : En → M D := fun env => M.bind (fo env) fun x => objF C x fun n ob => fvD (ob.fs.lookup f)
/-- o.f, data -/
def eFldD (C f : Str) (fo : En → M D) : En → M D := fun env => M.bind (fo env) fun x => objF C x fun n ob => fvE (ob.fs.lookup f)
/-- o.f = e, data -/
def sFldD (C f : Str) (fo fa : En → M D) : En → M Fl := fun env => liftS (fa env) env fun d => liftS (fo env) env fun x => objF C x fun n ob => if ob.fs.length < 1000 then fun S => .ok (.nx env) (S.set n ⟨ob.cls, putW f (.f d) ob.fs⟩) else M.bad
/-- o.f = e, a new list -/
def sFldO (C f : Str) (fo : En → M D) (fa : En → M (List D)) : En → M Fl := fun env => liftS (fa env) env fun d => liftS (fo env) env fun x => objF C x fun n ob => if ob.fs.length < 1000 then fun S => .ok (.nx env) (S.set n ⟨ob.cls, putW f (.o d) ob.fs⟩) else M.bad
/-- o.f = e, a new dict -/
def sFldK (C f : Str) (fo : En → M D) (fa : En → M (List (Key × D))) : En → M Fl := fun env => liftS (fa env) env fun d => liftS (fo env) env fun x => objF C x fun n ob => if ob.fs.length < 1000 then fun S => .ok (.nx env) (S.set n ⟨ob.cls, putW f (.k d) ob.fs⟩) else M.bad
def fldO {α : Type} (C f : Str) (x : D) (k : Nat → Ob → List D → M α) : M α := objF C x fun n ob => match ob.fs.lookup f with
  | some (.o xs) => k n ob xs
  | _ => M.bad
theorem fldO_get {α : Type} {C f : Str} {d : D} {k : Nat → Ob → List D → M α} {S : Store} {P : α → Store → Prop} {E : Str → Store → Prop} (h : (fldO C f d k S).sat P E) : ∃ n ob xs, d = .obj n ∧ S[n]? = some ob ∧ ob.cls = C ∧ ob.fs.lookup f = some (.o xs) ∧ (k n ob xs S).sat P E := by
  obtain ⟨n, ob, h1, h2, h3, h⟩ := objF_get h
  cases e : ob.fs.lookup f with
  | none => rw [e] at h; exact h.elim
  | some w =>
    rw [e] at h
    cases w with
    | o xs => exact ⟨n, ob, xs, h1, h2, h3, e, h⟩
    | _ => exact h.elim
section
variable {m : Bool} {X : Cx} {W : WX} {ca : Ct} {o e b : Expr} {fo fa fb : En → M D} {pos pos' : Pos} {C f : Str}
theorem SOk.ob {g : G} {S : Store} (hS : SOk ca g S) {n : Nat} {ob : Ob} {v : V} (e : S[n]? = some ob) (r : Rp g.F g.p v (.obj n)) {C : Str} (ec : ob.cls = C) (hC : (C == ("" : Str)) = false) : ∃ a dx fs, v = .ref a ∧ g.p (.ob n) = some a ∧ g.H a = some (.ins (ca ob.cls) dx fs) ∧ FsOk g n fs ob.fs := by
  obtain ⟨a, dx, fs, h1, h2, h3⟩ := hS.obs n ob e (by rw [ec]; exact beq_eq_false_iff_ne.mp hC)
  cases r with
  | obj hp => rw [h1] at hp; cases hp; exact ⟨_, dx, fs, rfl, h1, h2, h3⟩
theorem Rb.obj {g : G} {v : V} {n : Nat} (r : Rb m g v (.obj n)) : Rp g.F g.p v (.obj n) := by
  rcases r with r | ⟨_, _, _, _, e, _⟩ | ⟨_, _, _, _, e, _⟩
  · exact r
  · cases e
  · cases e
theorem db_fld (c : Cls X.K (ca C)) (nf : NoAttr X.K (ca C) f) (ho : DE true X W ca o fo) (hb : attributeBase o f X.env (eval o X.env) = eval o X.env := by rfl) (hC : (C == ("" : Str)) = false := by decide) : DB true X W ca (.Attribute o f pos) (eFld C f fo) := by
  obtain ⟨t, p, k⟩ := ho
  refine ⟨_, pe_fld p hb, fun H0 g S σ env hS hE Q h => k H0 g S σ env hS hE _ (sat_mono (seqB h) (fun x S1 z g1 v e1 s1 r1 => ?_) fun _ _ q => q)⟩
  obtain ⟨n, ob, rfl, eS, ec, z⟩ := objF_get (z g1 e1)
  obtain ⟨a, dx, fs, rfl, h1, h2, h3⟩ := s1.ob eS r1 ec hC
  cases hl : ob.fs.lookup f with
  | none => rw [hl] at z; exact z.elim
  | some w =>
    rw [hl] at z
    obtain ⟨v, q1, q2⟩ := h3.get hl
    refine ⟨a, ca C, dx, fs, v, rfl, by rw [← ec]; exact h2, c, nf, q1, ?_⟩
    cases w with
    | f d => exact (show okB true ca g1 Q d S1 from z) g1 v (Ext.refl _) s1 (.inl q2)
    | o xs =>
      obtain ⟨l, vs, rfl, h4, h5, h6⟩ := q2
      exact (show okB true ca g1 Q (.lst xs) S1 from z) g1 _ (Ext.refl _) s1 (.inr (.inl ⟨l, vs, xs, rfl, rfl, h5, ⟨s1.out _ _ h4, .inr ⟨rfl, _, h4⟩⟩, h6⟩))
    | k xs =>
      obtain ⟨l, vs, rfl, h4, h5, h6⟩ := q2
      exact (show okB true ca g1 Q (.dct xs) S1 from z) g1 _ (Ext.refl _) s1 (.inr (.inr ⟨l, vs, xs, rfl, rfl, h5, ⟨s1.out _ _ h4, .inr ⟨rfl, _, h4⟩⟩, h6⟩))
theorem de_fldD (c : Cls X.K (ca C)) (nf : NoAttr X.K (ca C) f) (ho : DE m X W ca o fo) (hb : attributeBase o f X.env (eval o X.env) = eval o X.env := by rfl) (hC : (C == ("" : Str)) = false := by decide) : DE m X W ca (.Attribute o f pos) (eFldD C f fo) := by
  obtain ⟨t, p, k⟩ := ho
  refine ⟨_, pe_fld p hb, fun H0 g S σ env hS hE Q h => k H0 g S σ env hS hE _ (sat_mono (seqE h) (fun x S1 z g1 v e1 s1 r1 => ?_) fun _ _ q => q)⟩
  obtain ⟨n, ob, rfl, eS, ec, z⟩ := objF_get (z g1 e1)
  obtain ⟨a, dx, fs, rfl, h1, h2, h3⟩ := s1.ob eS r1 ec hC
  cases hl : ob.fs.lookup f with
  | none => rw [hl] at z; exact z.elim
  | some w =>
    rw [hl] at z
    obtain ⟨v, q1, q2⟩ := h3.get hl
    refine ⟨a, ca C, dx, fs, v, rfl, by rw [← ec]; exact h2, c, nf, q1, ?_⟩
    cases w with
    | f d => exact (show okE m ca g1 Q d S1 from z) g1 v (Ext.refl _) s1 q2
    | _ => exact z.elim
/-- the object at a takes v as f -/
theorem wr_obj {g : G} {S : Store} (hS : SOk ca g S) {n : Nat} {a C dx : Addr} {fs : List (Str × V)} {u : HO} (ea : g.p (.ob n) = some a) : Wr g n f a none (upd g.H a u) g.p :=
  ⟨ea, fun b o h _ e => by rw [upd_ne h]; exact e, (fun l h => nomatch h), fun _ => rfl, fun _ _ _ => rfl, fun q h => .inl h, fun _ _ => Iff.rfl⟩
theorem ds_fldD (c : Cls X.K (ca C)) (nf : NoAttr X.K (ca C) f) (ho : DE false X W ca o fo) (ha : DE false X W ca e fa) (hs : swapsWith e (some (.Attribute o f pos')) pos.line X.env = pure false := by rfl) (hC : (C == ("" : Str)) = false := by decide) : DS false X W ca (.Assign [.Attribute o f pos'] e pos) (sFldD C f fo fa) := by
  obtain ⟨to, po, ko⟩ := ho
  obtain ⟨ta, pa, ka⟩ := ha
  refine ⟨_, ps_fld po pa hs, fun g0 g S σ env e0 hS hE D h => ?_⟩
  refine ka g0.H g S σ env hS hE _ (sat_mono (stE e0 hE h) (fun d S1 z g1 v e1 s1 r1 => ?_) fun _ _ q => q)
  refine ko g0.H g1 S1 σ env s1 (hE.ext e1) _ (sat_mono (stE (e0.trans e1) (hE.ext e1) (z g1 e1)) (fun x S2 z g2 u e2 s2 r2 => ?_) fun _ _ q => q)
  obtain ⟨n, ob, rfl, eS, ec, z⟩ := objF_get (z g2 e2)
  obtain ⟨a, dx, fs, rfl, h1, h2, h3⟩ := s2.ob eS r2 ec hC
  by_cases hl : ob.fs.length < 1000
  · rw [if_pos hl] at z
    rw [ec] at h2
    refine ⟨a, ca C, dx, fs, rfl, h2, c, nf, by rw [h3.length]; exact hl, ?_⟩
    have wr := wr_obj (f := f) (C := ca C) (dx := dx) (fs := fs) (u := .ins (ca C) dx (putF f v fs)) s2 h1
    have aw : ∃ o, upd g2.H a (.ins (ca C) dx (putF f v fs)) a = some o := ⟨_, upd_same⟩
    have ex := ext_put (Ext.refl g2) wr aw (fun x y q => by rw [h2] at q; cases q) (fun q h => .inl h)
    exact (show okS false ca W g0 g2 D (.nx env) (S2.set n ⟨ob.cls, putW f (.f d) ob.fs⟩) from z) ⟨g2.F, upd g2.H a (.ins (ca C) dx (putF f v fs)), g2.p⟩ σ ((e0.trans (e1.trans e2)).trans ex) ex.mo
      (sok_put s2 wr eS h2 (by rw [ec]) h3 upd_same (e2.rp r1)) (((hE.ext e1).ext e2).ext ex)
  · rw [if_neg hl] at z; exact z.elim
/-- the place of a field's own list changes -/
def Pi.to (p : Pi) (n : Nat) (f : Str) (q : Addr) : Pi := ⟨fun l => match l with
  | .ob k => p.at_ (.ob k)
  | .fl k f' => if k = n ∧ f' = f then some q else p.at_ (.fl k f'), p.sc⟩
theorem Pi.to_le (p : Pi) (n : Nat) (f : Str) (q : Addr) : PiLe p (p.to n f q) := ⟨fun _ _ h => h, fun _ _ h => h⟩
theorem Pi.to_self (p : Pi) (n : Nat) (f : Str) (q : Addr) : (p.to n f q).at_ (.fl n f) = some q := by
  show (if n = n ∧ f = f then _ else _) = _
  rw [if_pos ⟨rfl, rfl⟩]
theorem wr_own {g : G} {S : Store} (hS : SOk ca g S) {n : Nat} {a q : Addr} {u o : HO} (ea : g.p (.ob n) = some a) (hq : ∀ l, g.p l ≠ some q) (hF : g.F q = none) (hH : g.H q = some o) : Wr g n f a none (upd g.H a u) (g.p.to n f q) :=
  ⟨ea, fun b o h _ e => by rw [upd_ne h]; exact e, (fun l h => nomatch h), fun _ => rfl, fun k f' h => if_neg h, fun q' h => by
    rw [Pi.to_self] at h
    cases h
    exact .inr ⟨hq, hF, o, hH⟩, fun _ _ => Iff.rfl⟩
theorem own_fld {g0 g g2 : G} {S2 : Store} {σ : L2.St} {env : En} {D : Ends} {n : Nat} {a q dx : Addr} {fs : List (Str × V)} {ob : Ob} {o : HO} {w : FV} (e0 : Ext false g0 g) (ex : Ext false g g2) (hE : EnvOk g0.H g σ env) (nq : g.H q = none) (s2 : SOk ca g2 S2) (eS : S2[n]? = some ob) (ec : ob.cls = C) (h1 : g2.p (.ob n) = some a) (h2 : g2.H a = some (.ins (ca C) dx fs)) (h3 : FsOk g2 n fs ob.fs)
    (hq : g2.H q = some o) (hqa : o ≠ .ins (ca C) dx fs) (hF : g2.F q = none) (hp : ∀ l, g2.p l ≠ some q) (hw : FvOk ⟨g2.F, upd g2.H a (.ins (ca C) dx (putF f (.ref q) fs)), g2.p.to n f q⟩ n f (.ref q) w) (z : okS false ca W g0 g2 D (.nx env) (S2.set n ⟨ob.cls, putW f w ob.fs⟩)) : D.nx σ (upd g2.H a (.ins (ca C) dx (putF f (.ref q) fs))) := by
  have wr : Wr g2 n f a none (upd g2.H a (.ins (ca C) dx (putF f (.ref q) fs))) (g2.p.to n f q) := wr_own s2 h1 hp hF hq
  have aw : ∃ o, upd g2.H a (.ins (ca C) dx (putF f (.ref q) fs)) a = some o := ⟨_, upd_same⟩
  have ex2 := ext_put ex wr aw (fun x y q => by rw [h2] at q; cases q) (fun q' h => by
    rw [Pi.to_self] at h
    cases h
    exact .inr nq)
  exact z ⟨g2.F, upd g2.H a (.ins (ca C) dx (putF f (.ref q) fs)), g2.p.to n f q⟩ σ (e0.trans ex2) (mo_put wr aw (fun x y q => by rw [h2] at q; cases q)) (sok_put s2 wr eS h2 (by rw [ec]) h3 upd_same hw) (hE.ext ex2)
theorem ds_fldO {fl : En → M (List D)} (c : Cls X.K (ca C)) (nf : NoAttr X.K (ca C) f) (ho : DE false X W ca o fo) (ha : DO false X W ca e fl) (hs : swapsWith e (some (.Attribute o f pos')) pos.line X.env = pure false := by rfl) (hC : (C == ("" : Str)) = false := by decide) : DS false X W ca (.Assign [.Attribute o f pos'] e pos) (sFldO C f fo fl) := by
  obtain ⟨to, po, ko⟩ := ho
  obtain ⟨ta, pa, ka⟩ := ha
  refine ⟨_, ps_fld po pa hs, fun g0 g S σ env e0 hS hE D h => ?_⟩
  refine ka g0.H g S σ env hS hE _ (sat_mono (stE e0 hE h) (fun d S1 z g1 q vs e1 s1 nq hq hF hp r1 => ?_) fun _ _ q => q)
  refine ko g0.H g1 S1 σ env s1 (hE.ext e1) _ (sat_mono (stE (e0.trans e1) (hE.ext e1) (z g1 e1)) (fun x S2 z g2 u e2 s2 r2 => ?_) fun _ _ q => q)
  obtain ⟨n, ob, rfl, eS, ec, z⟩ := objF_get (z g2 e2)
  obtain ⟨a, dx, fs, rfl, h1, h2, h3⟩ := s2.ob eS r2 ec hC
  obtain ⟨hq, hF, hp⟩ := e2.stay q _ hq hF hp
  by_cases hl : ob.fs.length < 1000
  · rw [if_pos hl] at z
    rw [ec] at h2
    refine ⟨a, ca C, dx, fs, rfl, h2, c, nf, by rw [h3.length]; exact hl, ?_⟩
    exact own_fld (W := W) (w := .o d) e0 (e1.trans e2) hE nq s2 eS ec h1 h2 h3 hq (fun z => nomatch z) hF hp ⟨q, vs, rfl, Pi.to_self _ _ _ _, by
      show upd g2.H a _ q = _
      rw [upd_ne (fun z => by subst z; rw [h2] at hq; cases hq)]; exact hq, RpA.mono (Same.refl _) (Pi.to_le _ _ _ _) (e2.rpA r1)⟩ z
  · rw [if_neg hl] at z; exact z.elim
theorem ds_fldK {fl : En → M (List (Key × D))} (c : Cls X.K (ca C)) (nf : NoAttr X.K (ca C) f) (ho : DE false X W ca o fo) (ha : DK false X W ca e fl) (hs : swapsWith e (some (.Attribute o f pos')) pos.line X.env = pure false := by rfl) (hC : (C == ("" : Str)) = false := by decide) : DS false X W ca (.Assign [.Attribute o f pos'] e pos) (sFldK C f fo fl) := by
  obtain ⟨to, po, ko⟩ := ho
  obtain ⟨ta, pa, ka⟩ := ha
  refine ⟨_, ps_fld po pa hs, fun g0 g S σ env e0 hS hE D h => ?_⟩
  refine ka g0.H g S σ env hS hE _ (sat_mono (stE e0 hE h) (fun d S1 z g1 q vs e1 s1 nq hq hF hp r1 => ?_) fun _ _ q => q)
  refine ko g0.H g1 S1 σ env s1 (hE.ext e1) _ (sat_mono (stE (e0.trans e1) (hE.ext e1) (z g1 e1)) (fun x S2 z g2 u e2 s2 r2 => ?_) fun _ _ q => q)
  obtain ⟨n, ob, rfl, eS, ec, z⟩ := objF_get (z g2 e2)
  obtain ⟨a, dx, fs, rfl, h1, h2, h3⟩ := s2.ob eS r2 ec hC
  obtain ⟨hq, hF, hp⟩ := e2.stay q _ hq hF hp
  by_cases hl : ob.fs.length < 1000
  · rw [if_pos hl] at z
    rw [ec] at h2
    refine ⟨a, ca C, dx, fs, rfl, h2, c, nf, by rw [h3.length]; exact hl, ?_⟩
    exact own_fld (W := W) (w := .k d) e0 (e1.trans e2) hE nq s2 eS ec h1 h2 h3 hq (fun z => nomatch z) hF hp ⟨q, vs, rfl, Pi.to_self _ _ _ _, by
      show upd g2.H a _ q = _
      rw [upd_ne (fun z => by subst z; rw [h2] at hq; cases hq)]; exact hq, RpK.mono (Same.refl _) (Pi.to_le _ _ _ _) (e2.rpK r1)⟩ z
  · rw [if_neg hl] at z; exact z.elim
end
end Dn

namespace Dn
open PySem L2 PyProof.Rows
/-! ### a field's own list, written in place -/
def setB {α : Type} (n : Nat) (ob : Ob) (a : α) : M α := fun S => .ok a (S.set n ob)
/-- o.f.append(e) -/
def sFldApp (C f : Str) (fo fa : En → M D) : En → M Fl := fun env => liftS (fo env) env fun x => fldO C f x fun n _ _ => liftS (fa env) env fun d => fldO C f (.obj n) fun n ob xs => if xs.length < lim then setB n ⟨ob.cls, putW f (.o (xs ++ [d])) ob.fs⟩ (.nx env) else M.bad
/-- o.f.pop(i) -/
def eFldPop (C f : Str) (fo fi : En → M D) : En → M D := fun env => M.bind (fo env) fun x => fldO C f x fun n _ _ => M.bind (fi env) fun i => fldO C f (.obj n) fun n ob xs => match i with
  | .int k => match ixN xs.length k with
    | some j => match xs[j]? with
      | some d => if xs.length ≤ lim then setB n ⟨ob.cls, putW f (.o (xs.eraseIdx j)) ob.fs⟩ d else M.bad
      | none => M.bad
    | none => M.bad
  | _ => M.bad
/-- o.f[i] = e -/
def sFldSetI (C f : Str) (fo fi fa : En → M D) : En → M Fl := fun env => liftS (fa env) env fun d => liftS (fo env) env fun x => fldO C f x fun n _ _ => liftS (fi env) env fun i => fldO C f (.obj n) fun n ob xs => match i with
  | .int k => match ixN xs.length k with
    | some j => setB n ⟨ob.cls, putW f (.o (xs.set j d)) ob.fs⟩ (.nx env)
    | none => M.bad
  | _ => M.bad
/-- o.f.append(o.f.pop(i)) -/
def sFldRot (C f : Str) (fo fi : En → M D) : En → M Fl := fun env => liftS (fo env) env fun x => fldO C f x fun n _ _ => liftS (eFldPop C f fo fi env) env fun d => fldO C f (.obj n) fun n ob xs => if xs.length < lim then setB n ⟨ob.cls, putW f (.o (xs ++ [d])) ob.fs⟩ (.nx env) else M.bad
section
variable {m : Bool} {X : Cx} {W : WX} {ca : Ct} {o e b : Expr} {fo fa fb : En → M D} {pos pos' : Pos} {C f : Str}
/-- the list at l, of field f of object n, gets the content ws -/
theorem wr_inpl {g : G} {S : Store} (hS : SOk ca g S) {n : Nat} {a l : Addr} {u : HO} {vs : List V} (ea : g.p (.ob n) = some a) (hl : g.p (.fl n f) = some l) (hH : g.H l = some (.lst vs)) : Wr g n f a (some l) (upd g.H l u) g.p :=
  ⟨ea, fun b o _ h e => by rw [upd_ne (fun z => h (by rw [z]))]; exact e, fun l' h => by
    cases h
    exact ⟨hl, ⟨u, upd_same⟩, fun o u' z => by rw [hH] at z; cases z⟩, fun _ => rfl, fun _ _ _ => rfl, fun q h => .inl h, fun _ _ => Iff.rfl⟩
theorem inpl {g0 g : G} (e0 : Ext false g0 g) {S : Store} (hS : SOk ca g S) {n : Nat} {ob : Ob} {ys : List D} {a l dx : Addr} {fs : List (Str × V)} {vs ws : List V} (eS : S[n]? = some ob) (ea : g.p (.ob n) = some a) (eH : g.H a = some (.ins (ca ob.cls) dx fs)) (hf : FsOk g n fs ob.fs) (hv : fs.lookup f = some (.ref l))
    (hl : g.p (.fl n f) = some l) (hH : g.H l = some (.lst vs)) (r : RpA g.F g.p ws ys) : Ext false g0 ⟨g.F, upd g.H l (.lst ws), g.p⟩ ∧ Mo false g ⟨g.F, upd g.H l (.lst ws), g.p⟩ ∧ SOk ca ⟨g.F, upd g.H l (.lst ws), g.p⟩ (S.set n ⟨ob.cls, putW f (.o ys) ob.fs⟩) := by
  have wr := wr_inpl (u := .lst ws) hS ea hl hH
  have na : a ≠ l := fun z => by subst z; rw [eH] at hH; cases hH
  have hA : upd g.H l (.lst ws) a = some (.ins (ca ob.cls) dx (putF f (.ref l) fs)) := by rw [upd_ne na, putF_same hv]; exact eH
  exact ⟨ext_put e0 wr ⟨_, hA⟩ (fun x y q => by rw [eH] at q; cases q) (fun q h => .inl h), mo_put wr ⟨_, hA⟩ (fun x y q => by rw [eH] at q; cases q), sok_put hS wr eS eH rfl hf hA ⟨l, ws, rfl, hl, upd_same, r⟩⟩
/-- what stands at a field's own list -/
theorem SOk.fld {g : G} {S : Store} (hS : SOk ca g S) {n : Nat} {ob : Ob} {xs : List D} {v : V} (eS : S[n]? = some ob) (r : Rp g.F g.p v (.obj n)) (hl : ob.fs.lookup f = some (.o xs)) {C : Str} (ec : ob.cls = C) (hC : (C == ("" : Str)) = false) :
    ∃ a dx fs l vs, v = .ref a ∧ g.p (.ob n) = some a ∧ g.H a = some (.ins (ca ob.cls) dx fs) ∧ FsOk g n fs ob.fs ∧ fs.lookup f = some (.ref l) ∧ g.p (.fl n f) = some l ∧ g.H l = some (.lst vs) ∧ RpA g.F g.p vs xs := by
  obtain ⟨a, dx, fs, h0, h1, h2, h3⟩ := hS.ob eS r ec hC
  obtain ⟨v, q1, l, vs, rfl, q2, q3, q4⟩ := h3.get hl
  exact ⟨a, dx, fs, l, vs, h0, h1, h2, h3, q1, q2, q3, q4⟩
theorem exE.dn {g : G} {σ : L2.St} {c : Str} {S : Store} (h : exE m ca W g σ c S) : exE true ca W g σ c S := fun g' e s => h g' e.down s
theorem ds_fldApp {apos fpos cpos : Pos} (c : Cls X.K (ca C)) (nf : NoAttr X.K (ca C) f) (ho : DE false X W ca o fo) (ha : DE true X W ca e fa) (hb : attributeBase o f X.env (eval o X.env) = eval o X.env := by rfl)
    (hbase : attributeBase (.Attribute o f fpos) "append" X.env (eval (.Attribute o f fpos) X.env) = eval (.Attribute o f fpos) X.env := by rfl)
    (hfew : ((backTo cpos (starEach [e] X.env)).all (fun x => !x.1) && (backToKw cpos (keywordEach [] X.env)).all (fun x => x.1.isSome) && decide (([e] : List Expr).length + ([] : List Keyword).length + (if ([] : List Keyword).isEmpty then 0 else 1) < 30)) = true := by rfl)
    (hline : (apos.endLine == cpos.line) = true := by rfl) (hs : starEach [e] X.env = (false, eval e X.env) :: starEach [] X.env := by rfl) (hsw : swapsWith (.Call (.Attribute (.Attribute o f fpos) "append" apos) [e] [] cpos) none pos.line X.env = pure false := by rfl) (hC : (C == ("" : Str)) = false := by decide) :
    DS false X W ca (.Expr (.Call (.Attribute (.Attribute o f fpos) "append" apos) [e] [] cpos) pos) (sFldApp C f fo fa) := by
  obtain ⟨to, po, ko⟩ := ho
  obtain ⟨ta, pa, ka⟩ := ha
  refine ⟨_, ps_expr (pe_bm PySem.F.plainAttrs_list PySem.F.slot_list_append PySem.F.type_list_append mt_append (pe_fld po hb) (pa_cons pa pa_nil hs) hbase hfew hline hs) hsw, fun g0 g S σ env e0 hS hE D h => ?_⟩
  refine ko g0.H g S σ env hS hE _ (sat_mono (stE e0 hE h) (fun x S1 z g1 u e1 s1 r1 => ?_) fun _ _ q => q)
  obtain ⟨n, ob, xs, rfl, eS, ec, el, z⟩ := fldO_get (z g1 e1)
  obtain ⟨a, dx, fs, l, vs, rfl, h1, h2, h3, h4, h5, h6, h7⟩ := s1.fld eS r1 el ec hC
  refine ⟨a, ca C, dx, fs, _, rfl, by rw [← ec]; exact h2, c, nf, h4, .inl ⟨rfl, vs, SqL.of h6⟩, ?_⟩
  refine ka g0.H g1 S1 σ env s1 (hE.ext e1) _ (sat_mono (stE (e0.trans e1) (hE.ext e1) z) (fun d S2 z g2 v e2 s2 r2 => ?_) fun _ _ q => q.dn)
  have e2' : Ext false g1 g2 := e2.down
  obtain ⟨n', ob2, xs2, en, eS2, ec2, el2, z⟩ := fldO_get (z g2 e2')
  cases en
  obtain ⟨a2, dx2, fs2, l2, vs2, ea2, k1, k2, k3, k4, k5, k6, k7⟩ := s2.fld eS2 (e2.rp r1) el2 ec2 hC
  obtain ⟨pe, pk⟩ := e2.pure rfl
  have el : l2 = l := by rw [pe, h5] at k5; cases k5; rfl
  subst el
  by_cases hl : xs2.length < lim
  · rw [if_pos hl] at z
    obtain ⟨ex, mx, sx⟩ := inpl (e0.trans (e1.trans e2')) s2 eS2 k1 k2 k3 k4 k5 k6 (k7.append (.one r2))
    refine ⟨_, vs2, v, rfl, rfl, k6, by rw [k7.length]; exact lim_lt' hl, ?_⟩
    exact (show okS false ca W g0 g2 D (.nx env) (S2.set n ⟨ob2.cls, putW f (.o (xs2 ++ [d])) ob2.fs⟩) from z) _ σ ex mx sx (((hE.ext e1).ext e2').ext (inpl (Ext.refl g2) s2 eS2 k1 k2 k3 k4 k5 k6 (k7.append (.one r2))).1)
  · rw [if_neg hl] at z; exact z.elim
theorem de_fldPop {apos fpos cpos : Pos} (c : Cls X.K (ca C)) (nf : NoAttr X.K (ca C) f) (ho : DE false X W ca o fo) (ha : DE true X W ca e fa) (hb : attributeBase o f X.env (eval o X.env) = eval o X.env := by rfl)
    (hbase : attributeBase (.Attribute o f fpos) "pop" X.env (eval (.Attribute o f fpos) X.env) = eval (.Attribute o f fpos) X.env := by rfl)
    (hfew : ((backTo cpos (starEach [e] X.env)).all (fun x => !x.1) && (backToKw cpos (keywordEach [] X.env)).all (fun x => x.1.isSome) && decide (([e] : List Expr).length + ([] : List Keyword).length + (if ([] : List Keyword).isEmpty then 0 else 1) < 30)) = true := by rfl)
    (hline : (apos.endLine == cpos.line) = true := by rfl) (hs : starEach [e] X.env = (false, eval e X.env) :: starEach [] X.env := by rfl) (hC : (C == ("" : Str)) = false := by decide) :
    DE false X W ca (.Call (.Attribute (.Attribute o f fpos) "pop" apos) [e] [] cpos) (eFldPop C f fo fa) := by
  obtain ⟨to, po, ko⟩ := ho
  obtain ⟨ta, pa, ka⟩ := ha
  refine ⟨_, pe_bm PySem.F.plainAttrs_list PySem.F.slot_list_pop PySem.F.type_list_pop mt_popAt (pe_fld po hb) (pa_cons pa pa_nil hs) hbase hfew hline hs, fun H0 g S σ env hS hE Q h => ?_⟩
  refine ko H0 g S σ env hS hE _ (sat_mono (seqE h) (fun x S1 z g1 u e1 s1 r1 => ?_) fun _ _ q => q)
  obtain ⟨n, ob, xs, rfl, eS, ec, el, z⟩ := fldO_get (z g1 e1)
  obtain ⟨a, dx, fs, l, vs, rfl, h1, h2, h3, h4, h5, h6, h7⟩ := s1.fld eS r1 el ec hC
  refine ⟨a, ca C, dx, fs, _, rfl, by rw [← ec]; exact h2, c, nf, h4, .inl ⟨rfl, vs, SqL.of h6⟩, ?_⟩
  refine ka H0 g1 S1 σ env s1 (hE.ext e1) _ (sat_mono (seqE z) (fun i S2 z g2 v e2 s2 r2 => ?_) fun _ _ q => q.dn)
  have e2' : Ext false g1 g2 := e2.down
  obtain ⟨n', ob2, xs2, en, eS2, ec2, el2, z⟩ := fldO_get (z g2 e2')
  cases en
  obtain ⟨a2, dx2, fs2, l2, vs2, ea2, k1, k2, k3, k4, k5, k6, k7⟩ := s2.fld eS2 (e2.rp r1) el2 ec2 hC
  obtain ⟨pe, pk⟩ := e2.pure rfl
  have el : l2 = l := by rw [pe, h5] at k5; cases k5; rfl
  subst el
  cases i with
  | int k =>
    dsimp only at z
    cases ej : ixN xs2.length k with
    | none => rw [ej] at z; exact z.elim
    | some j =>
      rw [ej] at z
      dsimp only at z
      cases ed : xs2[j]? with
      | none => rw [ed] at z; exact z.elim
      | some d =>
        rw [ed] at z
        dsimp only at z
        by_cases hl : xs2.length ≤ lim
        · rw [if_pos hl] at z
          obtain ⟨w, w1, w2⟩ := k7.get j ed
          obtain ⟨ex, mx, sx⟩ := inpl (Ext.refl g2) s2 eS2 k1 k2 k3 k4 k5 k6 (k7.eraseIdx j)
          obtain ⟨i1, i2, i3, i4⟩ := ixN_seq ej
          have hl' : xs2.length ≤ 1000000 := hl
          cases r2
          refine ⟨_, vs2, k, j, w, rfl, rfl, k6, by omega, by omega, by rw [k7.length]; exact i1, w1, ?_⟩
          exact (show okE false ca g2 Q d (S2.set n ⟨ob2.cls, putW f (.o (xs2.eraseIdx j)) ob2.fs⟩) from z) _ w ex sx w2
        · rw [if_neg hl] at z; exact z.elim
  | _ => exact z.elim
theorem ds_fldSetI {fpos spos : Pos} (c : Cls X.K (ca C)) (nf : NoAttr X.K (ca C) f) (ho : DE false X W ca o fo) (hi : DE true X W ca b fb) (ha : DE false X W ca e fa) (hb : attributeBase o f X.env (eval o X.env) = eval o X.env := by rfl)
    (hsw : swapsWithSole [.Subscript (.Attribute o f fpos) b spos] e pos.line X.env = pure false := by rfl) (hsw2 : swappedStores [.Subscript (.Attribute o f fpos) b spos] e X.env = pure none := by rfl)
    (h1 : (assignEach [.Subscript (.Attribute o f fpos) b spos] X.env).map (·.2) = [assign (.Subscript (.Attribute o f fpos) b spos) X.env] := by rfl)
    (has : ∀ v, assign (.Subscript (.Attribute o f fpos) b spos) X.env v = (do
      let ov ← holding [v] (eval (.Attribute o f fpos) X.env)
      let iv ← holding [v, ov] (eval b X.env)
      standAt spos
      holding [v, ov, iv] (setItem ov iv v)
      release [v, ov, iv] []) := by intro _; rfl) (hC : (C == ("" : Str)) = false := by decide) :
    DS false X W ca (.Assign [.Subscript (.Attribute o f fpos) b spos] e pos) (sFldSetI C f fo fb fa) := by
  obtain ⟨to, po, ko⟩ := ho
  obtain ⟨ti, pi, ki⟩ := hi
  obtain ⟨ta, pa, ka⟩ := ha
  refine ⟨_, ps_asg pa (pg_sub (pe_fld po hb) pi set_list has) hsw hsw2 h1, fun g0 g S σ env e0 hS hE D h => ?_⟩
  refine ka g0.H g S σ env hS hE _ (sat_mono (stE e0 hE h) (fun d S0 z g' v e' s' rv => ?_) fun _ _ q => q)
  have e0 := e0.trans e'
  have hE := hE.ext e'
  refine ko g0.H g' S0 σ env s' hE _ (sat_mono (stE e0 hE (z g' e')) (fun x S1 z g1 u e1 s1 r1 => ?_) fun _ _ q => q)
  obtain ⟨n, ob, xs, rfl, eS, ec, el, z⟩ := fldO_get (z g1 e1)
  obtain ⟨a, dx, fs, l, vs, rfl, h1, h2, h3, h4, h5, h6, h7⟩ := s1.fld eS r1 el ec hC
  refine ⟨a, ca C, dx, fs, _, rfl, by rw [← ec]; exact h2, c, nf, h4, ?_⟩
  refine ki g0.H g1 S1 σ env s1 (hE.ext e1) _ (sat_mono (stE (e0.trans e1) (hE.ext e1) z) (fun i S2 z g2 w e2 s2 r2 => ?_) fun _ _ q => q.dn)
  have e2' : Ext false g1 g2 := e2.down
  obtain ⟨n', ob2, xs2, en, eS2, ec2, el2, z⟩ := fldO_get (z g2 e2')
  cases en
  obtain ⟨a2, dx2, fs2, l2, vs2, ea2, k1, k2, k3, k4, k5, k6, k7⟩ := s2.fld eS2 (e2.rp r1) el2 ec2 hC
  obtain ⟨pe, pk⟩ := e2.pure rfl
  have el : l2 = l := by rw [pe, h5] at k5; cases k5; rfl
  subst el
  cases i with
  | int k =>
    dsimp only at z
    cases ej : ixN xs2.length k with
    | none => rw [ej] at z; exact z.elim
    | some j =>
      rw [ej] at z
      cases r2
      have rr := k7.set j (e2'.rp (e1.rp rv))
      obtain ⟨ex, mx, sx⟩ := inpl (e0.trans (e1.trans e2')) s2 eS2 k1 k2 k3 k4 k5 k6 rr
      refine ⟨_, vs2, k, j, rfl, rfl, k6, by rw [k7.length]; exact ej, ?_⟩
      exact (show okS false ca W g0 g2 D (.nx env) (S2.set n ⟨ob2.cls, putW f (.o (xs2.set j d)) ob2.fs⟩) from z) _ σ ex mx sx (((hE.ext e1).ext e2').ext (inpl (Ext.refl g2) s2 eS2 k1 k2 k3 k4 k5 k6 rr).1)
  | _ => exact z.elim
theorem ds_fldRot {apos fpos cpos apos2 fpos2 cpos2 : Pos} (c : Cls X.K (ca C)) (nf : NoAttr X.K (ca C) f) (ho : DE true X W ca o fo) (ho2 : DE true X W ca b fo) (ha : DE true X W ca e fa) (hb : attributeBase o f X.env (eval o X.env) = eval o X.env := by rfl) (hb2 : attributeBase b f X.env (eval b X.env) = eval b X.env := by rfl)
    (hbase2 : attributeBase (.Attribute b f fpos2) "pop" X.env (eval (.Attribute b f fpos2) X.env) = eval (.Attribute b f fpos2) X.env := by rfl)
    (hfew2 : ((backTo cpos2 (starEach [e] X.env)).all (fun x => !x.1) && (backToKw cpos2 (keywordEach [] X.env)).all (fun x => x.1.isSome) && decide (([e] : List Expr).length + ([] : List Keyword).length + (if ([] : List Keyword).isEmpty then 0 else 1) < 30)) = true := by rfl)
    (hline2 : (apos2.endLine == cpos2.line) = true := by rfl) (hs2 : starEach [e] X.env = (false, eval e X.env) :: starEach [] X.env := by rfl)
    (hbase : attributeBase (.Attribute o f fpos) "append" X.env (eval (.Attribute o f fpos) X.env) = eval (.Attribute o f fpos) X.env := by rfl)
    (hfew : ((backTo cpos (starEach [.Call (.Attribute (.Attribute b f fpos2) "pop" apos2) [e] [] cpos2] X.env)).all (fun x => !x.1) && (backToKw cpos (keywordEach [] X.env)).all (fun x => x.1.isSome) && decide (([.Call (.Attribute (.Attribute b f fpos2) "pop" apos2) [e] [] cpos2] : List Expr).length + ([] : List Keyword).length + (if ([] : List Keyword).isEmpty then 0 else 1) < 30)) = true := by rfl)
    (hline : (apos.endLine == cpos.line) = true := by rfl) (hs : starEach [.Call (.Attribute (.Attribute b f fpos2) "pop" apos2) [e] [] cpos2] X.env = (false, eval (.Call (.Attribute (.Attribute b f fpos2) "pop" apos2) [e] [] cpos2) X.env) :: starEach [] X.env := by rfl)
    (hsw : swapsWith (.Call (.Attribute (.Attribute o f fpos) "append" apos) [.Call (.Attribute (.Attribute b f fpos2) "pop" apos2) [e] [] cpos2] [] cpos) none pos.line X.env = pure false := by rfl) (hC : (C == ("" : Str)) = false := by decide) :
    DS false X W ca (.Expr (.Call (.Attribute (.Attribute o f fpos) "append" apos) [.Call (.Attribute (.Attribute b f fpos2) "pop" apos2) [e] [] cpos2] [] cpos) pos) (sFldRot C f fo fa) := by
  obtain ⟨to, po, ko⟩ := ho
  obtain ⟨to2, po2, ko2⟩ := ho2
  obtain ⟨ta, pa, ka⟩ := ha
  refine ⟨_, ps_expr (pe_bm PySem.F.plainAttrs_list PySem.F.slot_list_append PySem.F.type_list_append mt_append (pe_fld po hb) (pa_cons (pe_bm PySem.F.plainAttrs_list PySem.F.slot_list_pop PySem.F.type_list_pop mt_popAt (pe_fld po2 hb2) (pa_cons pa pa_nil hs2) hbase2 hfew2 hline2 hs2) pa_nil hs) hbase hfew hline hs) hsw, fun g0 g S σ env e0 hS hE D h => ?_⟩
  refine ko g0.H g S σ env hS hE _ (sat_mono (stE e0 hE h) (fun x S1 z g1 u e1 s1 r1 => ?_) fun _ _ q => q.dn)
  have d1 : Ext false g g1 := e1.down
  have hE1 := hE.ext e1
  obtain ⟨n, ob, xs, rfl, eS, ec, el, z⟩ := fldO_get (z g1 d1)
  obtain ⟨a, dx, fs, l, vs, rfl, h1, h2, h3, h4, h5, h6, h7⟩ := s1.fld eS r1 el ec hC
  refine ⟨a, ca C, dx, fs, _, rfl, by rw [← ec]; exact h2, c, nf, h4, .inl ⟨rfl, vs, SqL.of h6⟩, ?_⟩
  have z := stE (e0.trans d1) hE1 z
  unfold eFldPop at z
  refine ko2 g0.H g1 S1 σ env s1 hE1 _ (sat_mono (sat_bind z) (fun x2 S2 z g2 u2 e2 s2 r2 => ?_) fun _ _ q => q.dn)
  have d2 : Ext false g1 g2 := e2.down
  obtain ⟨n2, ob2, xs2, rfl, eS2, ec2, el2, z⟩ := fldO_get z
  obtain ⟨a2, dx2, fs2, l2, vs2, rfl, i1, i2, i3, i4, i5, i6, i7⟩ := s2.fld eS2 r2 el2 ec2 hC
  refine ⟨a2, ca C, dx2, fs2, _, rfl, by rw [← ec2]; exact i2, c, nf, i4, .inl ⟨rfl, vs2, SqL.of i6⟩, ?_⟩
  refine ka g0.H g2 S2 σ env s2 (hE1.ext e2) _ (sat_mono (sat_bind z) (fun i S3 z g3 v e3 s3 r3 => ?_) fun _ _ q => (q.mono d2).dn)
  have d3 : Ext false g2 g3 := e3.down
  obtain ⟨n3, ob3, xs3, en, eS3, ec3, el3, z⟩ := fldO_get z
  cases en
  obtain ⟨a3, dx3, fs3, l3, vs3, ea3, k1, k2, k3, k4, k5, k6, k7⟩ := s3.fld eS3 (e3.rp r2) el3 ec3 hC
  obtain ⟨pe2, pk2⟩ := e2.pure rfl
  obtain ⟨pe3, pk3⟩ := e3.pure rfl
  have el3' : l3 = l2 := by rw [pe3, i5] at k5; cases k5; rfl
  subst el3'
  cases i with
  | int k =>
    dsimp only at z
    cases ej : ixN xs3.length k with
    | none => rw [ej] at z; exact z.elim
    | some j =>
      rw [ej] at z
      dsimp only at z
      cases ed : xs3[j]? with
      | none => rw [ed] at z; exact z.elim
      | some d =>
        rw [ed] at z
        dsimp only at z
        by_cases hl : xs3.length ≤ lim
        · rw [if_pos hl] at z
          obtain ⟨w, w1, w2⟩ := k7.get j ed
          obtain ⟨ex, mx, sx⟩ := inpl (Ext.refl g3) s3 eS3 k1 k2 k3 k4 k5 k6 (k7.eraseIdx j)
          obtain ⟨j1, j2, j3, j4⟩ := ixN_seq ej
          have hl' : xs3.length ≤ 1000000 := hl
          cases r3
          refine ⟨_, vs3, k, j, w, rfl, rfl, k6, by omega, by omega, by rw [k7.length]; exact j1, w1, ?_⟩
          have dd := d2.trans (d3.trans ex)
          have z := (show ∀ g', Ext false g1 g' → _ from z) _ dd
          obtain ⟨n4, ob4, xs4, en, eS4, ec4, el4, z⟩ := fldO_get z
          cases en
          obtain ⟨a4, dx4, fs4, l4, vs4, ea4, q1, q2, q3, q4, q5, q6, q7⟩ := sx.fld eS4 (dd.rp r1) el4 ec4 hC
          have el4' : l4 = l := by
            have q5 : g3.p (.fl n f) = some l4 := q5
            rw [pe3, pe2, h5] at q5; cases q5; rfl
          subst el4'
          by_cases hl4 : xs4.length < lim
          · rw [if_pos hl4] at z
            obtain ⟨ex4, mx4, sx4⟩ := inpl (e0.trans (d1.trans dd)) sx eS4 q1 q2 q3 q4 q5 q6 (q7.append (.one w2))
            refine ⟨_, vs4, w, rfl, rfl, q6, by rw [q7.length]; exact lim_lt' hl4, ?_⟩
            exact (show okS false ca W g0 ⟨g3.F, upd g3.H l3 (.lst (vs3.eraseIdx j)), g3.p⟩ D (.nx env) _ from z) _ σ ex4 mx4 sx4 ((hE1.ext dd).ext (inpl (Ext.refl _) sx eS4 q1 q2 q3 q4 q5 q6 (q7.append (.one w2))).1)
          · rw [if_neg hl4] at z; exact z.elim
        · rw [if_neg hl] at z; exact z.elim
  | _ => exact z.elim
end
end Dn

namespace Dn
open PySem L2 PyProof.Rows
/-! ### calls: no argument, methods, new objects -/
section
variable {X : Cx} {CX : CXT} {k : Nat} {f C : Addr} {fd : FuncData} {ps : List Str} {sp : Sp} {E : L2.St → XK} {x mt : Str} {p pos apos : Pos} {e o : Expr} {es : List Expr} {ta : TE} {t : TA}
theorem pe_c0 (F : FnOk X.prog X.w X.K X.mg X.base CX k f fd ps sp) (hr : Room k X.A) (hg : Gl X x) (hm : X.mg x = some (.ref f)) (hk : PySem.W.keepIn X.K (.ref f) = true) (hb : Binds X.K fd ps []) (hx : ∀ σ, PassesAt CX X σ (E σ)) (hdb : (x == ("__debug__" : Str)) = false := by decide) :
    PE X (.Call (.Name x p) [] [] pos) (fun σ H Q => sp [] H Q (E σ)) :=
  ⟨fun pins s σ H Q I h => wpAny_Call_Name_kw (ld_glob I hg hm (PySem.W.callWith_K0 I.kIn hk (run_fnS (us := []) F hr hb (hx σ) I .nil h)) hdb)⟩
def tMt (C : Addr) (mt : Str) (sp : Sp) (E : L2.St → XK) (ta : TE) (t : TA) : TE := fun σ H Q => ta σ H fun x H1 => ∃ a dx fs, x = .ref a ∧ H1 a = some (.ins C dx fs) ∧ fs.lookup mt = none ∧ t σ H1 fun vs H2 => sp (x :: vs) H2 Q (E σ)
theorem pe_mt {pl : Sem Bool} (he : PE X o ta) (c : Cls X.K C) (hm : Meth X.K C mt f) (F : FnOk X.prog X.w X.K X.mg X.base CX k f fd ps sp) (hr : Room k X.A) (hb : Binds X.K fd ps []) (hx : ∀ σ, PassesAt CX X σ (E σ)) (ha : PA X (e :: es) t)
    (hst : starEach (e :: es) X.env = (false, eval e X.env) :: starEach es X.env) (hpl : (backTo pos (starEach es X.env)).any (·.1) = false) (ht : eval (.Call (.Attribute o mt apos) (e :: es) [] pos) X.env = (do
      let ov ← eval o X.env
      standAt apos.atName
      let (f, first) ← holding [ov] (getMethod ov mt pl)
      callWith pos f first (backTo pos (starEach (e :: es) X.env)) (backToKw pos (keywordEach [] X.env)))) : PE X (.Call (.Attribute o mt apos) (e :: es) [] pos) (tMt C mt sp E ta t) := by
  refine ⟨fun pins s σ H Q I h => PySem.W.methodCall_KW (pl := pl) (thn (he.run pins s σ H _ I h) fun u s1 hu => ?_) ht⟩
  obtain ⟨x, H1, I1, rx, a, dx, fs, ex, ea, l, q⟩ := hu
  subst ex
  obtain rfl : u = Value.ref a := rx
  refine getmeth_ok I1 ea c hm l (PySem.W.callWith_K (first := [.ref a]) (h₀ := X.base) I1.ok.mod.kin hm.kp (thn (ha.run pos pins s1 σ H1 _ I1 q) fun us s2 hs => ?_) hst hpl)
  obtain ⟨vs, H2, I2, r, q2⟩ := hs
  exact ⟨I2.kIn, run_fnS (us := .ref a :: us) (vs := .ref a :: vs) F hr hb (hx σ) I2 (.cons rfl r) q2⟩
theorem pe_mt0 {pl : Sem Bool} (he : PE X o ta) (c : Cls X.K C) (hm : Meth X.K C mt f) (F : FnOk X.prog X.w X.K X.mg X.base CX k f fd ps sp) (hr : Room k X.A) (hb : Binds X.K fd ps []) (hx : ∀ σ, PassesAt CX X σ (E σ)) (ht : eval (.Call (.Attribute o mt apos) [] [] pos) X.env = (do
      let ov ← eval o X.env
      standAt apos.atName
      let (f, first) ← holding [ov] (getMethod ov mt pl)
      callWith pos f first (backTo pos (starEach [] X.env)) (backToKw pos (keywordEach [] X.env)))) : PE X (.Call (.Attribute o mt apos) [] [] pos) (tMt C mt sp E ta tNil) := by
  refine ⟨fun pins s σ H Q I h => PySem.W.methodCall_KW (pl := pl) (thn (he.run pins s σ H _ I h) fun u s1 hu => ?_) ht⟩
  obtain ⟨x, H1, I1, rx, a, dx, fs, ex, ea, l, q⟩ := hu
  subst ex
  obtain rfl : u = Value.ref a := rx
  exact getmeth_ok I1 ea c hm l (PySem.W.callWith_K0 (first := [.ref a]) I1.kIn hm.kp (run_fnS (us := [.ref a]) (vs := [.ref a]) F hr hb (hx σ) I1 (.cons rfl .nil) q))
theorem run_mk {pins : List (Addr × Obj)} {σ : L2.St} {H : Hp} {s : Shared} {Q : VK} {us : List Value} {vs : List V} (M : Mk X.K C f) (F : FnOk X.prog X.w X.K X.mg X.base CX k f fd ps sp) (hr : Room (k + 1) X.A) (hb : Binds X.K fd ps [])
    (hx : PassesAt CX X σ (E σ)) (I : Inv X pins σ H s) (r : Vals vs us) (h : ∀ x dx, H x = none → H dx = none → dx ≠ x → sp (.ref x :: vs) (upd (upd H dx (.own x)) x (.ins C dx [])) (fun v H2 => v = .non ∧ Q (.ref x) H2) (E σ)) :
    wpAny (model X.prog X.w) X.A (call (.ref C) us) (EP X pins σ Q) X.xe s := by
  have I2 := Inv.made (C := C) I
  have hq := h (s.heap.objs.size + 1) s.heap.objs.size (I.hok.fresh (Nat.le_add_right _ 1)) (I.hok.fresh (Nat.le_refl _)) (Nat.ne_of_lt (Nat.lt_add_one _))
  have r2 : Vals (V.ref (s.heap.objs.size + 1) :: vs) (Value.ref (s.heap.objs.size + 1) :: us) := .cons rfl r
  have hl : (Value.ref (s.heap.objs.size + 1) :: us ++ []).length = ps.length := by
    rw [List.append_nil, ← r2.length, F.len _ _ _ _ hq]
  have hb2 := hb _ (Value.ref (s.heap.objs.size + 1) :: us) I2.kIn hl
  rw [List.append_nil] at hb2
  refine wpAny_call (make_map (f := f) I.kIn M.makes M.init (beq_iff_eq.mp M.fn) (codeAny_mono (F.run _ X.stack _ _ ⟨Value.ref (s.heap.objs.size + 1) :: us, []⟩ _ _ _ (E σ) (hr.make C us []) (I2.env0.make C us []) hb2 r2 hq) fun res s' z => ?_))
  match res, z with
  | .error e, z => exact hx pins _ _ e s' I2 z
  | .ok (.ret u), z =>
    obtain ⟨v, H', I3, rv, ev, q3⟩ := I2.after z
    subst ev
    exact ⟨rv, ⟨V.ref (s.heap.objs.size + 1), H', I3, rfl, q3⟩⟩
def tMkS (C : Addr) (sp : Sp) (E : L2.St → XK) (t : TA) : TE := fun σ H Q => t σ H fun vs H1 => ∀ x dx, H1 x = none → H1 dx = none → dx ≠ x → sp (.ref x :: vs) (upd (upd H1 dx (.own x)) x (.ins C dx [])) (fun v H2 => v = .non ∧ Q (.ref x) H2) (E σ)
theorem pe_mk (M : Mk X.K C f) (F : FnOk X.prog X.w X.K X.mg X.base CX k f fd ps sp) (hr : Room (k + 1) X.A) (hg : Gl X x) (hm : X.mg x = some (.ref C)) (hb : Binds X.K fd ps []) (hx : ∀ σ, PassesAt CX X σ (E σ)) (ha : PA X (e :: es) t)
    (hdb : (x == ("__debug__" : Str)) = false) (he : starEach (e :: es) X.env = (false, eval e X.env) :: starEach es X.env) (hpl : (backTo pos (starEach es X.env)).any (·.1) = false) : PE X (.Call (.Name x p) (e :: es) [] pos) (tMkS C sp E t) := by
  refine ⟨fun pins s σ H Q I h => wpAny_Call_Name_kw (ld_glob I hg hm (PySem.W.callWith_K (h₀ := X.base) I.ok.mod.kin M.kp (thn (ha.run pos pins s σ H _ I h) fun us s1 hs => ?_) he hpl) hdb)⟩
  obtain ⟨vs, H1, I1, r, q⟩ := hs
  exact ⟨I1.kIn, run_mk M F hr hb (hx σ) I1 r q⟩
theorem pe_mk0 (M : Mk X.K C f) (F : FnOk X.prog X.w X.K X.mg X.base CX k f fd ps sp) (hr : Room (k + 1) X.A) (hg : Gl X x) (hm : X.mg x = some (.ref C)) (hb : Binds X.K fd ps []) (hx : ∀ σ, PassesAt CX X σ (E σ))
    (hdb : (x == ("__debug__" : Str)) = false) : PE X (.Call (.Name x p) [] [] pos) (tMkS C sp E tNil) :=
  ⟨fun pins s σ H Q I h => wpAny_Call_Name_kw (ld_glob I hg hm (PySem.W.callWith_K0 I.kIn M.kp (run_mk (us := []) M F hr hb (hx σ) I .nil h)) hdb)⟩
end

/-! ### their denotations -/
theorem FsOk.getN {g : G} {n : Nat} : ∀ {vs : List (Str × V)} {ws : List (Str × FV)}, FsOk g n vs ws → ∀ {f : Str}, ws.lookup f = none → vs.lookup f = none
  | _, _, .nil, _, _ => rfl
  | _, _, .cons (f := f0) h t z, f, e => by
    by_cases c : f = f0
    · subst c; rw [look_eq] at e; cases e
    · rw [look_ne _ _ c] at e ⊢
      exact FsOk.getN t e
/-- o.m(..) -/
def eMt (C mt : Str) (fo : En → M D) (f : Fn) (fs : En → M (List D)) : En → M D := fun env => M.bind (fo env) fun x => objF C x fun _ ob => if (ob.fs.lookup mt).isNone = true then M.bind (fs env) fun ds => M.bind (f (x :: ds)) fun r => M.ret r.d else M.bad
def oMt (C mt : Str) (fo : En → M D) (f : Fn) (fs : En → M (List D)) : En → M (List D) := fun env => M.bind (fo env) fun x => objF C x fun _ ob => if (ob.fs.lookup mt).isNone = true then M.bind (fs env) fun ds => M.bind (f (x :: ds)) fun r => match r with
    | .o xs => M.ret xs
    | .f _ => M.bad
  else M.bad
def mkO (C : Str) (f : Fn) (ds : List D) : M D := fun S => M.bind (f (.obj S.length :: ds)) (fun r => match r with
  | .f .non => M.ret (.obj S.length)
  | _ => M.bad) (S ++ [⟨C, []⟩])
/-- C(..) -/
def eMk (C : Str) (f : Fn) (fs : En → M (List D)) : En → M D := fun env => M.bind (fs env) fun ds => mkO C f ds
def Pi.add (p : Pi) (n : Nat) (x : Addr) : Pi := ⟨fun l => match l with
  | .ob k => if k = n then some x else p.at_ (.ob k)
  | .fl k f => p.at_ (.fl k f), p.sc⟩
section
variable {m m' : Bool} {X : Cx} {W : WX} {ca : Ct} {a e o : Expr} {es : List Expr} {fo : En → M D} {fs : En → M (List D)} {pos p apos : Pos} {k : Nat} {f : Addr} {fd : FuncData} {ps : List Str} {fn : Fn} {x C mt : Str}
theorem de_call0 (F : FnD X.prog X.w X.K X.mg X.base k f fd ps m' ca fn) (hm' : Fits m m') (hn : 0 = ps.length) (hr : Room k X.A) (hm : X.mg x = some (.ref f)) (hk : PySem.W.keepIn X.K (.ref f) = true) (hb : Binds X.K fd ps []) (tk : Tk X W)
    (hg : Gl X x := by rfl) (hdb : (x == ("__debug__" : Str)) = false := by decide) : DE m X W ca (.Call (.Name x p) [] [] pos) (eFn fn aNil) := by
  refine ⟨_, pe_c0 (E := WE W) F hr hg hm hk hb (fun σ => tkPass tk σ) hdb, fun H0 g S σ env hS hE Q h => ?_⟩
  have h2 := seqE h
  exact spOf_run (by rw [← hn]; rfl) hm' hS .nil (sat_mono (sat_bind (h2 g (Ext.refl g))) (fun r S2 q => q) fun c S2 q => q)
theorem do_call0 (F : FnD X.prog X.w X.K X.mg X.base k f fd ps m' ca fn) (hm' : Fits m m') (hn : 0 = ps.length) (hr : Room k X.A) (hm : X.mg x = some (.ref f)) (hk : PySem.W.keepIn X.K (.ref f) = true) (hb : Binds X.K fd ps []) (tk : Tk X W)
    (hg : Gl X x := by rfl) (hdb : (x == ("__debug__" : Str)) = false := by decide) : DO m X W ca (.Call (.Name x p) [] [] pos) (oFn fn aNil) := by
  refine ⟨_, pe_c0 (E := WE W) F hr hg hm hk hb (fun σ => tkPass tk σ) hdb, fun H0 g S σ env hS hE Q h => ?_⟩
  have h2 := seqO h
  refine spOf_runO (by rw [← hn]; rfl) hm' hS .nil (sat_mono (sat_bind (h2 g (Ext.refl g))) (fun r S2 q => ?_) fun c S2 q => q)
  cases r with
  | o xs => exact ⟨xs, rfl, q⟩
  | f d => exact q.elim
theorem mt_go {g1 : G} {S1 : Store} {σ : L2.St} {n : Nat} {ob : Ob} {v : V} (c : Cls X.K (ca C)) (s1 : SOk ca g1 S1) (eS : S1[n]? = some ob) (ec : ob.cls = C) (r1 : Rp g1.F g1.p v (.obj n)) (hno : (ob.fs.lookup mt).isNone = true) (hC : (C == ("" : Str)) = false) :
    ∃ a dx fs, v = .ref a ∧ g1.H a = some (.ins (ca C) dx fs) ∧ fs.lookup mt = none := by
  obtain ⟨a, dx, gs, rfl, h1, h2, h3⟩ := s1.ob eS r1 ec hC
  exact ⟨a, dx, gs, rfl, by rw [← ec]; exact h2, h3.getN (Option.isNone_iff_eq_none.mp hno)⟩
theorem de_mt {pl : Sem Bool} (ho : DE m X W ca o fo) (c : Cls X.K (ca C)) (hme : Meth X.K (ca C) mt f) (F : FnD X.prog X.w X.K X.mg X.base k f fd ps m' ca fn) (hm' : Fits m m') (hn : (e :: es).length + 1 = ps.length) (hr : Room k X.A) (hb : Binds X.K fd ps []) (tk : Tk X W) (ha : DA m X W ca (e :: es) fs)
    (hln : ∀ env S ds S', fs env S = .ok ds S' → ds.length = (e :: es).length) (hst : starEach (e :: es) X.env = (false, eval e X.env) :: starEach es X.env := by rfl) (hpl : (backTo pos (starEach es X.env)).any (·.1) = false := by rfl) (ht : eval (.Call (.Attribute o mt apos) (e :: es) [] pos) X.env = (do
      let ov ← eval o X.env
      standAt apos.atName
      let (f, first) ← holding [ov] (getMethod ov mt pl)
      callWith pos f first (backTo pos (starEach (e :: es) X.env)) (backToKw pos (keywordEach [] X.env))) := by rfl) (hC : (C == ("" : Str)) = false := by decide) : DE m X W ca (.Call (.Attribute o mt apos) (e :: es) [] pos) (eMt C mt fo fn fs) := by
  obtain ⟨to, po, ko⟩ := ho
  obtain ⟨t, pa, ka⟩ := ha
  refine ⟨_, pe_mt (E := WE W) po c hme F hr hb (fun σ => tkPass tk σ) pa hst hpl ht, fun H0 g S σ env hS hE Q h => ?_⟩
  refine ko H0 g S σ env hS hE _ (sat_mono (seqE h) (fun y S1 z g1 v e1 s1 r1 => ?_) fun _ _ q => q)
  obtain ⟨n, ob, rfl, eS, ec, z⟩ := objF_get (z g1 e1)
  by_cases hno : (ob.fs.lookup mt).isNone = true
  · rw [if_pos hno] at z
    obtain ⟨a, dx, gs, rfl, h2, h3⟩ := mt_go (σ := σ) c s1 eS ec r1 hno hC
    refine ⟨a, dx, gs, rfl, h2, h3, ?_⟩
    cases e2 : fs env S1 with
    | bad => unfold M.bind at z; rw [e2] at z; exact z.elim
    | exc c S2 =>
      refine ka H0 g1 S1 σ env s1 (hE.ext e1) _ ?_
      rw [e2]
      unfold M.bind at z
      rw [e2] at z
      exact z
    | ok ds S2 =>
      refine ka H0 g1 S1 σ env s1 (hE.ext e1) _ ?_
      have z2 := seqE z
      rw [e2] at z2 ⊢
      intro g2 vs x2 s2 r2
      exact spOf_run (by rw [List.length_cons, r2.length, hln _ _ _ _ e2]; exact hn) hm' s2 (.cons (x2.rp r1) r2) (sat_mono (sat_bind (z2 g2 x2)) (fun r S2 q => q) fun c S2 q => q)
  · rw [if_neg hno] at z; exact z.elim
theorem do_mt {pl : Sem Bool} (ho : DE m X W ca o fo) (c : Cls X.K (ca C)) (hme : Meth X.K (ca C) mt f) (F : FnD X.prog X.w X.K X.mg X.base k f fd ps m' ca fn) (hm' : Fits m m') (hn : (e :: es).length + 1 = ps.length) (hr : Room k X.A) (hb : Binds X.K fd ps []) (tk : Tk X W) (ha : DA m X W ca (e :: es) fs)
    (hln : ∀ env S ds S', fs env S = .ok ds S' → ds.length = (e :: es).length) (hst : starEach (e :: es) X.env = (false, eval e X.env) :: starEach es X.env := by rfl) (hpl : (backTo pos (starEach es X.env)).any (·.1) = false := by rfl) (ht : eval (.Call (.Attribute o mt apos) (e :: es) [] pos) X.env = (do
      let ov ← eval o X.env
      standAt apos.atName
      let (f, first) ← holding [ov] (getMethod ov mt pl)
      callWith pos f first (backTo pos (starEach (e :: es) X.env)) (backToKw pos (keywordEach [] X.env))) := by rfl) (hC : (C == ("" : Str)) = false := by decide) : DO m X W ca (.Call (.Attribute o mt apos) (e :: es) [] pos) (oMt C mt fo fn fs) := by
  obtain ⟨to, po, ko⟩ := ho
  obtain ⟨t, pa, ka⟩ := ha
  refine ⟨_, pe_mt (E := WE W) po c hme F hr hb (fun σ => tkPass tk σ) pa hst hpl ht, fun H0 g S σ env hS hE Q h => ?_⟩
  refine ko H0 g S σ env hS hE _ (sat_mono (seqO h) (fun y S1 z g1 v e1 s1 r1 => ?_) fun _ _ q => q)
  obtain ⟨n, ob, rfl, eS, ec, z⟩ := objF_get (z g1 e1)
  by_cases hno : (ob.fs.lookup mt).isNone = true
  · rw [if_pos hno] at z
    obtain ⟨a, dx, gs, rfl, h2, h3⟩ := mt_go (σ := σ) c s1 eS ec r1 hno hC
    refine ⟨a, dx, gs, rfl, h2, h3, ?_⟩
    cases e2 : fs env S1 with
    | bad => unfold M.bind at z; rw [e2] at z; exact z.elim
    | exc c S2 =>
      refine ka H0 g1 S1 σ env s1 (hE.ext e1) _ ?_
      rw [e2]
      unfold M.bind at z
      rw [e2] at z
      exact z
    | ok ds S2 =>
      refine ka H0 g1 S1 σ env s1 (hE.ext e1) _ ?_
      have z2 := seqO z
      rw [e2] at z2 ⊢
      intro g2 vs x2 s2 r2
      refine spOf_runO (by rw [List.length_cons, r2.length, hln _ _ _ _ e2]; exact hn) hm' s2 (.cons (x2.rp r1) r2) (sat_mono (sat_bind (z2 g2 x2)) (fun r S2 q => ?_) fun c S2 q => q)
      cases r with
      | o xs => exact ⟨xs, rfl, q⟩
      | f d => exact q.elim
  · rw [if_neg hno] at z; exact z.elim
theorem de_mt0 {pl : Sem Bool} (ho : DE m X W ca o fo) (c : Cls X.K (ca C)) (hme : Meth X.K (ca C) mt f) (F : FnD X.prog X.w X.K X.mg X.base k f fd ps m' ca fn) (hm' : Fits m m') (hn : 1 = ps.length) (hr : Room k X.A) (hb : Binds X.K fd ps []) (tk : Tk X W)
    (ht : eval (.Call (.Attribute o mt apos) [] [] pos) X.env = (do
      let ov ← eval o X.env
      standAt apos.atName
      let (f, first) ← holding [ov] (getMethod ov mt pl)
      callWith pos f first (backTo pos (starEach [] X.env)) (backToKw pos (keywordEach [] X.env))) := by rfl) (hC : (C == ("" : Str)) = false := by decide) : DE m X W ca (.Call (.Attribute o mt apos) [] [] pos) (eMt C mt fo fn aNil) := by
  obtain ⟨to, po, ko⟩ := ho
  refine ⟨_, pe_mt0 (E := WE W) po c hme F hr hb (fun σ => tkPass tk σ) ht, fun H0 g S σ env hS hE Q h => ?_⟩
  refine ko H0 g S σ env hS hE _ (sat_mono (seqE h) (fun y S1 z g1 v e1 s1 r1 => ?_) fun _ _ q => q)
  obtain ⟨n, ob, rfl, eS, ec, z⟩ := objF_get (z g1 e1)
  by_cases hno : (ob.fs.lookup mt).isNone = true
  · rw [if_pos hno] at z
    obtain ⟨a, dx, gs, rfl, h2, h3⟩ := mt_go (σ := σ) c s1 eS ec r1 hno hC
    refine ⟨a, dx, gs, rfl, h2, h3, ?_⟩
    have z2 := seqE z
    exact spOf_run (by rw [← hn]; rfl) hm' s1 (.cons r1 .nil) (sat_mono (sat_bind (z2 g1 (Ext.refl g1))) (fun r S2 q => q) fun c S2 q => q)
  · rw [if_neg hno] at z; exact z.elim
theorem do_mt0 {pl : Sem Bool} (ho : DE m X W ca o fo) (c : Cls X.K (ca C)) (hme : Meth X.K (ca C) mt f) (F : FnD X.prog X.w X.K X.mg X.base k f fd ps m' ca fn) (hm' : Fits m m') (hn : 1 = ps.length) (hr : Room k X.A) (hb : Binds X.K fd ps []) (tk : Tk X W)
    (ht : eval (.Call (.Attribute o mt apos) [] [] pos) X.env = (do
      let ov ← eval o X.env
      standAt apos.atName
      let (f, first) ← holding [ov] (getMethod ov mt pl)
      callWith pos f first (backTo pos (starEach [] X.env)) (backToKw pos (keywordEach [] X.env))) := by rfl) (hC : (C == ("" : Str)) = false := by decide) : DO m X W ca (.Call (.Attribute o mt apos) [] [] pos) (oMt C mt fo fn aNil) := by
  obtain ⟨to, po, ko⟩ := ho
  refine ⟨_, pe_mt0 (E := WE W) po c hme F hr hb (fun σ => tkPass tk σ) ht, fun H0 g S σ env hS hE Q h => ?_⟩
  refine ko H0 g S σ env hS hE _ (sat_mono (seqO h) (fun y S1 z g1 v e1 s1 r1 => ?_) fun _ _ q => q)
  obtain ⟨n, ob, rfl, eS, ec, z⟩ := objF_get (z g1 e1)
  by_cases hno : (ob.fs.lookup mt).isNone = true
  · rw [if_pos hno] at z
    obtain ⟨a, dx, gs, rfl, h2, h3⟩ := mt_go (σ := σ) c s1 eS ec r1 hno hC
    refine ⟨a, dx, gs, rfl, h2, h3, ?_⟩
    have z2 := seqO z
    refine spOf_runO (by rw [← hn]; rfl) hm' s1 (.cons r1 .nil) (sat_mono (sat_bind (z2 g1 (Ext.refl g1))) (fun r S2 q => ?_) fun c S2 q => q)
    cases r with
    | o xs => exact ⟨xs, rfl, q⟩
    | f d => exact q.elim
  · rw [if_neg hno] at z; exact z.elim
/-- a new object of class C -/
theorem new_ob {g : G} {S : Store} (hS : SOk ca g S) {a dx : Addr} (n1 : g.H a = none) (n2 : g.H dx = none) (ne : dx ≠ a) (C : Str) (hC : (C == ("" : Str)) = false) :
    SOk ca ⟨g.F, upd (upd g.H dx (.own a)) a (.ins (ca C) dx []), g.p.add S.length a⟩ (S ++ [⟨C, []⟩]) ∧ Ext false g ⟨g.F, upd (upd g.H dx (.own a)) a (.ins (ca C) dx []), g.p.add S.length a⟩ := by
  have keep : ∀ b u, g.H b = some u → upd (upd g.H dx (.own a)) a (.ins (ca C) dx []) b = some u := fun b u h => by rw [upd_ne (ne_of_none h n1), upd_ne (ne_of_none h n2)]; exact h
  have nob : g.p (.ob S.length) = none := by
    cases c : g.p (.ob S.length) with
    | none => rfl
    | some b => exact absurd (hS.lt _ _ c) (Nat.lt_irrefl _)
  have old : ∀ l b, (g.p.add S.length a) l = some b → g.p l = some b ∨ (l = .ob S.length ∧ b = a) := fun l b h => by
    cases l with
    | fl k f => exact .inl h
    | ob k =>
      have h : (if k = S.length then some a else g.p (.ob k)) = some b := h
      by_cases c : k = S.length
      · rw [if_pos c] at h; cases h; exact .inr ⟨by rw [c], rfl⟩
      · rw [if_neg c] at h; exact .inl h
  have new : ∀ l b, g.p l = some b → (g.p.add S.length a) l = some b := fun l b h => by
    cases l with
    | fl k f => exact h
    | ob k =>
      show (if k = S.length then some a else g.p (.ob k)) = some b
      rw [if_neg (fun c => by rw [c, nob] at h; cases h)]; exact h
  have na : ∀ l, g.p l ≠ some a := hS.nop n1
  have le : PiLe g.p (g.p.add S.length a) := ⟨fun n b h => new _ _ h, fun _ _ h => h⟩
  refine ⟨⟨fun b u h => keep _ _ (hS.same _ _ h), fun l l' b h1 h2 => ?_, fun l b h => ?_, fun l b h => ?_, fun n ob h hc => ?_, fun b ns h => (hS.sc b ns h).keep fun b o u h => keep _ _ h, fun n b h => ?_, fun n f b h => ?_, fun n ob h hc => ?_⟩, Same.refl _, fun b u h hf hp => ⟨keep _ _ h, hf, fun l z => ?_⟩, le, fun b h => ?_, (fun h => nomatch h), fun b o u h => keep _ _ h⟩
  · rcases old _ _ h1 with q1 | ⟨q1, r1⟩ <;> rcases old _ _ h2 with q2 | ⟨q2, r2⟩
    · exact hS.inj _ _ _ q1 q2
    · exact absurd (by rw [← r2]; exact q1) (na l)
    · exact absurd (by rw [← r1]; exact q2) (na l')
    · rw [q1, q2]
  · rcases old _ _ h with q | ⟨q, r⟩
    · exact hS.out _ _ q
    · rw [r]; exact hS.free n1
  · rcases old _ _ h with q | ⟨q, r⟩
    · obtain ⟨u, z⟩ := hS.live _ _ q
      exact ⟨u, keep _ _ z⟩
    · rw [r]; exact ⟨_, upd_same⟩
  · by_cases c : n < S.length
    · rw [List.getElem?_append_left c] at h
      obtain ⟨b, dy, gs, h1, h2, h3⟩ := hS.obs n ob h hc
      refine ⟨b, dy, gs, new _ _ h1, keep _ _ h2, FsOk.kp (g := g) (g' := ⟨g.F, upd (upd g.H dx (.own a)) a (.ins (ca C) dx []), g.p.add S.length a⟩) (Same.refl _) le new (fun l b u _ h => keep _ _ h) h3⟩
    · rw [List.getElem?_append_right (by omega)] at h
      have e0 : n - S.length = 0 := by
        cases d : n - S.length with
        | zero => rfl
        | succ j => rw [d] at h; simp at h
      rw [e0] at h
      cases h
      have en : n = S.length := by omega
      subst en
      exact ⟨a, dx, [], by show (if S.length = S.length then some a else _) = _; rw [if_pos rfl], upd_same, .nil⟩
  · rw [List.length_append]
    rcases old _ _ h with q | ⟨q, r⟩
    · exact Nat.lt_of_lt_of_le (hS.lt _ _ q) (Nat.le_add_right _ _)
    · cases q; simp
  · rw [List.length_append]
    rcases old _ _ h with q | ⟨q, r⟩
    · exact Nat.lt_of_lt_of_le (hS.lf _ _ _ q) (Nat.le_add_right _ _)
    · cases q
  · by_cases c : n < S.length
    · rw [List.getElem?_append_left c] at h
      obtain ⟨b, h1, h2⟩ := hS.raw n ob h hc
      exact ⟨b, new _ _ h1, RawAt.mv (g := g) (g' := ⟨g.F, upd (upd g.H dx (.own a)) a (.ins (ca C) dx []), g.p.add S.length a⟩) (Same.refl _) le (fun o x => keep _ _ x) h2⟩
    · rw [List.getElem?_append_right (by omega)] at h
      have e0 : n - S.length = 0 := by
        cases d : n - S.length with
        | zero => rfl
        | succ j => rw [d] at h; simp at h
      rw [e0] at h
      cases h
      exact absurd hc (beq_eq_false_iff_ne.mp hC)
  · rcases old _ _ z with q | ⟨q, r⟩
    · exact hp _ q
    · rw [r, n1] at h; cases h
  · cases c : g.H b with
    | none => rfl
    | some u =>
      have h : upd (upd g.H dx (.own a)) a (.ins (ca C) dx []) b = none := h
      rw [keep _ _ c] at h; cases h
theorem mk_go {g : G} {S : Store} {σ : L2.St} {Q : VK} {vs : List V} {ds : List D} (hS : SOk ca g S) (hC : (C == ("" : Str)) = false) (hl : (vs.length + 1) = ps.length) (r : RpA g.F g.p vs ds) (z : (mkO C fn ds S).sat (okE false ca g Q) (exE false ca W g σ)) :
    ∀ x dx, g.H x = none → g.H dx = none → dx ≠ x → spOf m' ca ps.length fn (.ref x :: vs) (upd (upd g.H dx (.own x)) x (.ins (ca C) dx [])) (fun v H2 => v = .non ∧ Q (.ref x) H2) (WE W σ) := fun x dx n1 n2 ne => by
  obtain ⟨s1, e1⟩ := new_ob (ca := ca) hS n1 n2 ne C hC
  have px : (g.p.add S.length x) (.ob S.length) = some x := by show (if S.length = S.length then some x else _) = _; rw [if_pos rfl]
  refine ⟨hl, _, _, .obj S.length :: ds, rfl, s1, .cons (.obj px) (e1.rpA r), sat_mono (sat_bind z) (fun res S' q g' v e' s' h => ?_) fun c S' q g' e' s' => q g' (e1.trans e'.f) s'⟩
  cases res with
  | o xs => exact q.elim
  | f d =>
    cases d with
    | non =>
      have e' : Ext false _ g' := e'.f
      have h : Rp g'.F g'.p v .non := h
      cases h
      exact ⟨rfl, (show okE false ca g Q (.obj S.length) S' from q) g' _ (e1.trans e') s' (.obj (e'.obs.1 _ _ px))⟩
    | _ => exact q.elim
theorem de_mk (Mm : Mk X.K (ca C) f) (F : FnD X.prog X.w X.K X.mg X.base k f fd ps m' ca fn) (hn : (e :: es).length + 1 = ps.length) (hr : Room (k + 1) X.A) (hm : X.mg C = some (.ref (ca C))) (hb : Binds X.K fd ps []) (tk : Tk X W) (ha : DA false X W ca (e :: es) fs)
    (hln : ∀ env S ds S', fs env S = .ok ds S' → ds.length = (e :: es).length) (hg : Gl X C := by rfl) (hdb : (C == ("__debug__" : Str)) = false := by decide) (he : starEach (e :: es) X.env = (false, eval e X.env) :: starEach es X.env := by rfl) (hpl : (backTo pos (starEach es X.env)).any (·.1) = false := by rfl) (hC : (C == ("" : Str)) = false := by decide) :
    DE false X W ca (.Call (.Name C p) (e :: es) [] pos) (eMk C fn fs) := by
  obtain ⟨t, pa, ka⟩ := ha
  refine ⟨_, pe_mk (E := WE W) Mm F hr hg hm hb (fun σ => tkPass tk σ) pa hdb he hpl, fun H0 g S σ env hS hE Q h => ?_⟩
  cases e1 : fs env S with
  | bad => unfold eMk M.bind at h; rw [e1] at h; exact h.elim
  | exc c S1 =>
    refine ka H0 g S σ env hS hE _ ?_
    rw [e1]
    unfold eMk M.bind at h
    rw [e1] at h
    exact h
  | ok ds S1 =>
    refine ka H0 g S σ env hS hE _ ?_
    have h2 := seqE h
    rw [e1] at h2 ⊢
    intro g1 vs e2 s1 r1
    exact mk_go s1 hC (by rw [r1.length, hln _ _ _ _ e1]; exact hn) r1 (h2 g1 e2)
theorem de_mk0 (Mm : Mk X.K (ca C) f) (F : FnD X.prog X.w X.K X.mg X.base k f fd ps m' ca fn) (hn : 1 = ps.length) (hr : Room (k + 1) X.A) (hm : X.mg C = some (.ref (ca C))) (hb : Binds X.K fd ps []) (tk : Tk X W)
    (hg : Gl X C := by rfl) (hdb : (C == ("__debug__" : Str)) = false := by decide) (hC : (C == ("" : Str)) = false := by decide) : DE false X W ca (.Call (.Name C p) [] [] pos) (eMk C fn aNil) := by
  refine ⟨_, pe_mk0 (E := WE W) Mm F hr hg hm hb (fun σ => tkPass tk σ) hdb, fun H0 g S σ env hS hE Q h => ?_⟩
  exact mk_go (vs := []) hS hC (by rw [← hn]; rfl) .nil ((seqE h) g (Ext.refl g))
end
end Dn

namespace Dn
open PySem L2 PyProof.Rows
/-! ### raise -/
/-- the facts of an own class of errors -/
structure ExOk (K : PySem.W.Frag) (mg : Str → Option Value) (c : Str) (C : Addr) : Prop where
  q : PySem.W.excIn K C [.type "ValueError", .type "Exception", .type "BaseException", .type "object"] "ValueError.__new__" = true
  gC : mg c = some (.ref C)
  kC : PySem.W.keepIn K (.ref C) = true
  sub : PySem.W.subIn K (.ref C) (.type "BaseException") = some true
  ty : PySem.W.typeIn K (.ref C) = some (.type "type")
  ic : PySem.W.isClsIn K C = true
theorem exm_own {K : PySem.W.Frag} {mg : Str → Option Value} {x : Str} {C : Addr} {cls : Value} {b : Bool} (h : ExOk K mg x C) (s : PySem.W.subIn K cls (.ref C) = some b) : PySem.W.exmOne K cls (.ref C) = some b := by
  have i : (PySem.W.clsIn K C).isSome = true := h.ic
  unfold PySem.W.exmOne PySem.W.kitCls
  simp [h.sub, h.ty, i, s]
def sRaise (c : Str) : En → M Fl := fun env => M.ret (.ex c env)
section
variable {m : Bool} {X : Cx} {W : WX} {ca : Ct} {fb : En → M Fl}
theorem ds_raise {c msg : Str} {j : Nat} {p p2 pos pos' : Pos} (h : ExOk X.K X.mg c (ca c)) (tk : Tk X W) (hc : X.calm = true := by rfl) (hg : Gl X c := by rfl) (hdb : (c == ("__debug__" : Str)) = false := by decide) : DS m X W ca (.Raise (some (.Call (.Name c p) [.Constant (.str msg) j p2] [] pos)) none pos') (sRaise c) :=
  ⟨_, L2N.ps_raise hc tk (L2N.pmk_own PySem.F.excBase_ValueError h.q h.gC h.kC (raises_own h.sub h.ty) hg hdb), fun g0 g S σ env e0 hS hE D z => z g σ e0 (Mo.refl g) hS hE⟩

/-! ### try -/
def tCan (m : Bool) (ca : Ct) (W : WX) (f : En → M Fl) : TS := fun D σ H => ∃ g0 g S env, g.H = H ∧ Ext m g0 g ∧ SOk ca g S ∧ EnvOk g0.H g σ env ∧ (f env S).sat (okS m ca W g0 g D) noX
theorem DSs.can {sts : List Stmt} {f : En → M Fl} (h : DSs m X W ca sts f) : PSs X sts (tCan m ca W f) := by
  obtain ⟨t, p, k⟩ := h
  exact ⟨fun pins s σ H D I z => p.run pins s σ H D I (by
    obtain ⟨g0, g, S, env, rfl, e0, hS, hE, q⟩ := z
    exact k g0 g S σ env e0 hS hE D q)⟩
/-- what never raises -/
def noEx (c : M Fl) : M Fl := M.bind c fun fl => match fl with
  | .ex _ _ => M.bad
  | o => M.ret o
theorem noEx_sat {c : M Fl} {g0 g : G} {D : Ends} {S : Store} (h : (noEx c S).sat (okS m ca W g0 g D) noX) : (c S).sat (okS m ca W0 g0 g D) noX :=
  sat_mono (sat_bind h) (fun fl S' q => by
    cases fl with
    | ex c env => exact q.elim
    | nx env => exact q
    | rt d => exact q
    | rtO xs => exact q
    | bk env => exact q
    | ct env => exact q) fun _ _ q => q
/-- try: .. except C: .. -/
def sTry (isa : Str → Option Bool) (fb fs : En → M Fl) : En → M Fl := fun env => M.bind (fb env) fun fl => match fl with
  | .ex c env' => match isa c with
    | some true => noEx (fs env')
    | some false => M.ret (.ex c env')
    | none => M.bad
  | o => M.ret o
theorem ds_try {x : Str} {C : Addr} {b0 : Stmt} {body suite : List Stmt} {np pos pos' : Pos} {isa : Str → Option Bool} {fs : En → M Fl} (hc : Names X x (.ref C)) (hi : ∀ c b, isa c = some b → PySem.W.exmOne X.K (.ref (ca c)) (.ref C) = some b) (tk : Tk X W)
    (hb : ∀ (W : WX) (pn : List (Addr × Obj)) (xe : Value → Shared → Prop), Tk (X.tr pn xe) W → PassesOwn (model X.prog X.w) X.A X.env xe → DSs m (X.tr pn xe) W ca body fb)
    (hsu : ∀ (a : Addr) (oe : Obj) (pn : List (Addr × Obj)), DSs m (X.suite a ((a, oe) :: pn)) W0 ca (b0 :: suite) fs)
    (hs : X.stack = X.env :: X.outer := by rfl) (hf : X.env.frame = some X.env.locals := by rfl) : DS m X W ca (.Try body [.ExceptHandler (some (.Name x np)) none (b0 :: suite) pos'] [] [] pos) (sTry isa fb fs) := by
  refine ⟨_, L2N.ps_try_many (tb := fun W => tCan m ca W fb) (l := [(.ref C, fun _ _ _ => tCan m ca W0 fs)]) hs hf tk (fun W pn xe tk hp => (hb W pn xe tk hp).can) (.cons hc (fun a oe cls d pn _ _ => (hsu a oe pn).can) .nil), fun g0 g S σ env e0 hS hE D h => ?_⟩
  refine ⟨g0, g, S, env, rfl, e0, hS, hE, sat_mono (sat_bind h) (fun fl S' q => ?_) fun _ _ q => q⟩
  cases fl with
  | ex c env' =>
    dsimp only at q
    intro g' σ' e' mo s' hE'
    cases ec : isa c with
    | none => rw [ec] at q; exact q.elim
    | some b =>
      rw [ec] at q
      refine ⟨b, hi c b ec, fun eb a ha => ?_, fun eb => ?_⟩
      · subst eb
        exact ⟨g0, g', S', env', rfl, e', s', hE', sat_mono (noEx_sat q) (fun fl S2 q => q.mono mo) fun _ _ q => q⟩
      · subst eb
        exact (show okS m ca W g0 g D (.ex c env') S' from q) g' σ' e' mo s' hE'
  | nx env => exact q
  | rt d => exact q
  | rtO xs => exact q
  | bk env => exact q
  | ct env => exact q

/-! ### try: .. except C as n: .. -/
open Classical in
noncomputable def anyA {α : Type} (X : Addr → R α) : R α := if h : ∃ r, ∀ a, X a = r then h.choose else .bad
theorem anyA_const {α : Type} (r : R α) : anyA (fun _ => r) = r := by
  have h : ∃ r', ∀ _ : Addr, r = r' := ⟨r, fun _ => rfl⟩
  unfold anyA
  rw [dif_pos h]
  exact (h.choose_spec 0).symm
theorem anyA_sat {α : Type} {X : Addr → R α} {P : α → Store → Prop} {E : Str → Store → Prop} (h : (anyA X).sat P E) (a : Addr) : (X a).sat P E := by
  unfold anyA at h
  by_cases c : ∃ r, ∀ a, X a = r
  · rw [dif_pos c] at h
    rw [c.choose_spec a]
    exact h
  · rw [dif_neg c] at h; exact h.elim
/-- a slot is emptied behind -/
def dropS (i : Nat) (c : M Fl) : M Fl := M.bind c fun fl => match fl with
  | .nx env => M.ret (.nx (env.set i .u))
  | .bk env => M.ret (.bk (env.set i .u))
  | .ct env => M.ret (.ct (env.set i .u))
  | o => M.ret o
noncomputable def sTryAs (i : Nat) (isa : Str → Option Bool) (fb : En → M Fl) (fs : Addr → Str → En → M Fl) : En → M Fl := fun env => M.bind (fb env) fun fl => match fl with
  | .ex c env' => match isa c with
    | some true => fun S => anyA fun a => dropS i (noEx (fs a c (env'.set i (.x a)))) S
    | some false => M.ret (.ex c env')
    | none => M.bad
  | o => M.ret o
theorem EnvOk.setU {H0 : Hp} {g : G} {σ : L2.St} {env : En} (h : EnvOk H0 g σ env) (i : Nat) (v : Option V) (w : EV) (hw : EvOk H0 g v w) (no : w.own = false) : EnvOk H0 g (σ.set i v) (env.set i w) := by
  refine ⟨by simp [h.len], fun j x y a b => ?_, fun j k x y y' ne a b c d' o o' => ?_⟩
  · by_cases hj : i = j
    · subst hj
      have hi : i < env.length := by
        have := (List.getElem?_eq_some_iff.mp b).1
        simpa using this
      rw [List.getElem?_set_self hi] at b
      rw [List.getElem?_set_self (by rw [h.len]; exact hi)] at a
      cases a; cases b
      exact hw
    · rw [List.getElem?_set_ne hj] at a b
      exact h.at_ j x y a b
  · by_cases hj : i = j
    · subst hj
      have hi : i < env.length := by
        have := (List.getElem?_eq_some_iff.mp c).1
        simpa using this
      rw [List.getElem?_set_self hi] at c
      cases c
      rw [no] at o; cases o
    · by_cases hk : i = k
      · subst hk
        have hi : i < env.length := by
          have := (List.getElem?_eq_some_iff.mp d').1
          simpa using this
        rw [List.getElem?_set_self hi] at d'
        cases d'
        rw [no] at o'; cases o'
      · rw [List.getElem?_set_ne hj] at a c
        rw [List.getElem?_set_ne hk] at b d'
        exact h.apart j k x y y' ne a b c d' o o'
theorem dropS_sat {i : Nat} {c : M Fl} {g0 g : G} {D : Ends} {S : Store} (h : (dropS i (noEx c) S).sat (okS m ca W g0 g D) noX) :
    (c S).sat (okS m ca W0 g0 g { nx := fun σ' H' => D.nx (σ'.set i none) H', rt := D.rt, bk := fun σ' H' => D.bk (σ'.set i none) H', ct := fun σ' H' => D.ct (σ'.set i none) H' }) noX :=
  sat_mono (sat_bind (sat_bind h)) (fun fl S' q => by
    cases fl with
    | ex c env => exact q.elim
    | nx env => exact fun g' σ' a b c d => (show okS m ca W g0 g D (.nx (env.set i .u)) S' from q) g' _ a b c (d.setU i none .u trivial rfl)
    | rt d => exact q
    | rtO xs => exact q
    | bk env => exact fun g' σ' a b c d => (show okS m ca W g0 g D (.bk (env.set i .u)) S' from q) g' _ a b c (d.setU i none .u trivial rfl)
    | ct env => exact fun g' σ' a b c d => (show okS m ca W g0 g D (.ct (env.set i .u)) S' from q) g' _ a b c (d.setU i none .u trivial rfl)) fun _ _ q => q
theorem ds_tryAs {x n : Str} {C : Addr} {b0 : Stmt} {body suite : List Stmt} {np pos pos' : Pos} {isa : Str → Option Bool} {fs : Addr → Str → En → M Fl} (i : Nat) (hN : X.N.Nodup) (hc : Names X x (.ref C)) (hi : ∀ c b, isa c = some b → PySem.W.exmOne X.K (.ref (ca c)) (.ref C) = some b) (tk : Tk X W)
    (hb : ∀ (W : WX) (pn : List (Addr × Obj)) (xe : Value → Shared → Prop), Tk (X.tr pn xe) W → PassesOwn (model X.prog X.w) X.A X.env xe → DSs m (X.tr pn xe) W ca body fb)
    (hsu : ∀ (a : Addr) (oe : Obj) (c : Str) (pn : List (Addr × Obj)), L2N.Zn (.ref (ca c)) none oe → (∃ vs, oe.data = .fields vs) → DSs m (X.suite a ((a, oe) :: pn)) W0 ca (b0 :: suite) (fs a c))
    (hin : X.N[i]? = some n := by rfl) (hln : X.env.kindOf n = some .local := by rfl) (hs : X.stack = X.env :: X.outer := by rfl) (hf : X.env.frame = some X.env.locals := by rfl) : DS m X W ca (.Try body [.ExceptHandler (some (.Name x np)) (some n) (b0 :: suite) pos'] [] [] pos) (sTryAs i isa fb fs) := by
  refine ⟨_, L2N.ps_try_as (tb := fun W => tCan m ca W fb) (ts := fun a cls d D σ H => ∃ c, cls = .ref (ca c) ∧ d = none ∧ tCan m ca W0 (fs a c) D σ H) hs hf hN hin hln hc tk (fun W pn xe tk hp => (hb W pn xe tk hp).can) (fun a oe cls d pn hz hd => ⟨fun pins s σ H D I z => ?_⟩), fun g0 g S σ env e0 hS hE D h => ?_⟩
  · obtain ⟨c, rfl, rfl, z⟩ := z
    exact (hsu a oe c pn hz hd).can.run pins s σ H D I z
  refine ⟨g0, g, S, env, rfl, e0, hS, hE, sat_mono (sat_bind h) (fun fl S' q => ?_) fun _ _ q => q⟩
  cases fl with
  | ex c env' =>
    dsimp only at q
    intro g' σ' e' mo s' hE'
    cases ec : isa c with
    | none => rw [ec] at q; exact q.elim
    | some b =>
      rw [ec] at q
      refine ⟨b, hi c b ec, fun eb a ha => ?_, fun eb => ?_⟩
      · subst eb
        have q := anyA_sat q a
        exact ⟨c, rfl, rfl, g0, g', S', _, rfl, e', s', hE'.setU i _ (.x a) rfl rfl, sat_mono (dropS_sat q) (fun fl S2 q => q.mono mo) fun _ _ q => q⟩
      · subst eb
        exact (show okS m ca W g0 g D (.ex c env') S' from q) g' σ' e' mo s' hE'
  | nx env => exact q
  | rt d => exact q
  | rtO xs => exact q
  | bk env => exact q
  | ct env => exact q
end
end Dn

namespace Dn
open PySem L2 PyProof.Rows
/-! ### the caught error: isinstance, and a def that is handed it -/
theorem hot_suite {X : Cx} {a : Addr} {oe : Obj} {cls : Value} {d : Option Addr} {pn : List (Addr × Obj)} (hz : L2N.Zn cls d oe) (hf : ∃ vs, oe.data = .fields vs) : L2H.HotC (X.suite a ((a, oe) :: pn)) := by
  obtain ⟨vs, hv⟩ := hf
  exact ⟨(a, oe), ⟨rfl, vs, hv, hz.2.2 vs hv⟩, List.mem_cons_self⟩
theorem isin_at {X : Cx} {a C : Addr} {oe : Obj} (hp : (a, oe) ∈ X.pn) (xc : ExcC X.K C) (hz : Zc (.ref C) none oe) (hf : ∃ vs, oe.data = .fields vs) : CallR X (.builtin "isinstance") (rIsE X.K C a) := fun pins s σ H xs us Q I r h => by
  obtain ⟨c, cv, b, rfl, hcv, e, q⟩ := h
  match us, r with
  | [u1, u2], .cons rx (.cons rt .nil) =>
    obtain rfl : u1 = Value.ref a := rx
    obtain rfl : u2 = cv := hcv _ rt
    obtain ⟨hget, -⟩ := I.pin (a, oe) (List.mem_append_left _ hp)
    obtain ⟨vs, hv⟩ := hf
    have J : PySem.W.InstAt s.heap a oe C none := by
      rcases oe with ⟨oc, od, oda, osl⟩
      obtain ⟨rfl, rfl⟩ := hz
      obtain rfl : oda = .fields vs := hv
      exact ⟨hget, rfl, rfl, trivial⟩
    exact PySem.W.kia_one (PySem.W.handS_kitx_exc xc.hg xc.hk xc.hs xc.hd xc.ha xc.hn xc.ht xc.hm) I.kIn J e (fun z => nomatch z) fun tk => ⟨.bl b, H, I.kept (t' := tk) (fun _ _ z => z), rfl, q⟩
/-- isinstance(e, T), e the caught error in slot i -/
def eIsE (i : Nat) (a : Addr) (o : Option Bool) : En → M D := fun env => match env[i]? with
  | some (.x a') => if a' = a then M.lift (o.map D.bl) else M.bad
  | _ => M.bad
theorem eIsE_get {i : Nat} {a : Addr} {o : Option Bool} {env : En} {S : Store} {P : D → Store → Prop} {E : Str → Store → Prop} (h : (eIsE i a o env S).sat P E) : ∃ b, env[i]? = some (.x a) ∧ o = some b ∧ P (.bl b) S := by
  unfold eIsE at h
  cases e : env[i]? with
  | none => rw [e] at h; exact h.elim
  | some w =>
    rw [e] at h
    cases w with
    | x a' =>
      dsimp only at h
      by_cases c : a' = a
      · subst c
        rw [if_pos rfl] at h
        obtain ⟨z, h1, h2⟩ := sat_lift h
        cases o with
        | none => cases h1
        | some b => cases h1; exact ⟨b, rfl, rfl, h2⟩
      · rw [if_neg c] at h; exact h.elim
    | _ => exact h.elim
section
variable {m : Bool} {X : Cx} {W : WX} {ca : Ct} {a : Addr} {oe : Obj} {c n T : Str} {o : Option Bool} {p p1 p2 pos : Pos}
theorem de_isEx {t : TE} (i : Nat) (hp : (a, oe) ∈ X.pn) (hz : Zc (.ref (ca c)) none oe) (hf : ∃ vs, oe.data = .fields vs) (xc : ∀ b, o = some b → ExcC X.K (ca c)) {v : V} {cv : Value} (pT : PE X (.Name T p2) (tC v)) (hv : ∀ u, RelV v u → u = cv) (hk : ∀ b, o = some b → PySem.W.kitOne X.K (.ref (ca c)) cv = some b)
    (hN : X.N[i]? = some n := by rfl) (hvis : Vis X.env.scope n := by first | exact Or.inl rfl | exact Or.inr (Or.inl rfl) | exact Or.inr (Or.inr rfl)) (hd : (n == ("__debug__" : Str)) = false := by decide) (hcd : (n == ("__classdict__" : Str)) = false := by decide)
    (hg : Gl X "isinstance" := by rfl) (hm : X.mg "isinstance" = none := by assumption) (hs : starEach [.Name n p1, .Name T p2] X.env = (false, eval (.Name n p1) X.env) :: starEach [.Name T p2] X.env := by rfl) (hs2 : starEach [.Name T p2] X.env = (false, eval (.Name T p2) X.env) :: starEach [] X.env := by rfl) (hpl : (backTo pos (starEach [.Name T p2] X.env)).any (·.1) = false := by rfl) :
    DE m X W ca (.Call (.Name "isinstance" p) [.Name n p1, .Name T p2] [] pos) (eIsE i a o) := by
  cases e : o with
  | none =>
    refine ⟨fun _ _ _ => False, ⟨fun _ _ _ _ _ _ h => h.elim⟩, fun H0 g S σ env hS hE Q h => ?_⟩
    obtain ⟨b, _, e, _⟩ := eIsE_get h
    cases e
  | some b =>
    refine ⟨_, pe_callB (isin_at hp (xc b e) hz hf) hg hm PyProof.Rows.boot_isinstance (pa_cons (pe_var hN hvis hd hcd) (pa_cons pT pa_nil hs2) hs) (he := hs) (hpl := hpl), fun H0 g S σ env hS hE Q h => ?_⟩
    obtain ⟨b', e1, e2, q⟩ := eIsE_get h
    cases e2
    obtain ⟨v', h1, h2⟩ := hE.get e1
    have h2 : v' = some (.ref a) := h2
    subst h2
    exact ⟨_, h1, v, cv, b, rfl, hv, hk b e, (show okE m ca g Q (.bl b) S from q) g _ (Ext.refl g) hS (.bl b)⟩
/-- T: an own class -/
theorem de_isOwn {CT : Addr} (i : Nat) (hp : (a, oe) ∈ X.pn) (hz : Zc (.ref (ca c)) none oe) (hf : ∃ vs, oe.data = .fields vs) (xc : ∀ b, o = some b → ExcC X.K (ca c)) (hmT : X.mg T = some (.ref CT)) (hk : ∀ b, o = some b → PySem.W.kitOne X.K (.ref (ca c)) (.ref CT) = some b)
    (hgT : Gl X T := by rfl) (hdT : (T == ("__debug__" : Str)) = false := by decide) (hN : X.N[i]? = some n := by rfl) (hvis : Vis X.env.scope n := by first | exact Or.inl rfl | exact Or.inr (Or.inl rfl) | exact Or.inr (Or.inr rfl)) (hd : (n == ("__debug__" : Str)) = false := by decide) (hcd : (n == ("__classdict__" : Str)) = false := by decide)
    (hg : Gl X "isinstance" := by rfl) (hm : X.mg "isinstance" = none := by assumption) (hs : starEach [.Name n p1, .Name T p2] X.env = (false, eval (.Name n p1) X.env) :: starEach [.Name T p2] X.env := by rfl) (hs2 : starEach [.Name T p2] X.env = (false, eval (.Name T p2) X.env) :: starEach [] X.env := by rfl) (hpl : (backTo pos (starEach [.Name T p2] X.env)).any (·.1) = false := by rfl) :
    DE m X W ca (.Call (.Name "isinstance" p) [.Name n p1, .Name T p2] [] pos) (eIsE i a o) :=
  de_isEx (t := fun _ _ _ => False) i hp hz hf xc (v := .ref CT) (cv := .ref CT) (pe_glob (v := .ref CT) hgT hmT rfl hdT) (fun u h => h) hk hN hvis hd hcd hg hm hs hs2 hpl
/-- T: a class of the language -/
theorem de_isBlt {TB : String} (i : Nat) (hp : (a, oe) ∈ X.pn) (hz : Zc (.ref (ca c)) none oe) (hf : ∃ vs, oe.data = .fields vs) (xc : ∀ b, o = some b → ExcC X.K (ca c)) (hmT : X.mg T = none) (hv2 : bootBuiltins T = some (.type TB)) (hk : ∀ b, o = some b → PySem.W.kitOne X.K (.ref (ca c)) (.type TB) = some b)
    (hgT : Gl X T := by rfl) (hnT : T ≠ "__name__" := by decide) (hdT : (T == ("__debug__" : Str)) = false := by decide) (hN : X.N[i]? = some n := by rfl) (hvis : Vis X.env.scope n := by first | exact Or.inl rfl | exact Or.inr (Or.inl rfl) | exact Or.inr (Or.inr rfl)) (hd : (n == ("__debug__" : Str)) = false := by decide) (hcd : (n == ("__classdict__" : Str)) = false := by decide)
    (hg : Gl X "isinstance" := by rfl) (hm : X.mg "isinstance" = none := by assumption) (hs : starEach [.Name n p1, .Name T p2] X.env = (false, eval (.Name n p1) X.env) :: starEach [.Name T p2] X.env := by rfl) (hs2 : starEach [.Name T p2] X.env = (false, eval (.Name T p2) X.env) :: starEach [] X.env := by rfl) (hpl : (backTo pos (starEach [.Name T p2] X.env)).any (·.1) = false := by rfl) :
    DE m X W ca (.Call (.Name "isinstance" p) [.Name n p1, .Name T p2] [] pos) (eIsE i a o) :=
  de_isEx (t := fun _ _ _ => False) i hp hz hf xc (v := .ty TB) (cv := .type TB) (pe_bltn (v := .ty TB) hgT hmT hv2 rfl hnT hdT) (fun u h => h) hk hN hvis hd hcd hg hm hs hs2 hpl
end
/-- what a def gives that is handed the error -/
def fnX (n : Nat) (dn : Addr → Str → En → M Fl) (a : Addr) (c : Str) : M Res := M.bind (quiet (dn a c (.x a :: List.replicate (n - 1) .u))) fun fl => match fl with
  | .nx _ => M.ret (.f .non)
  | .rt d => M.ret (.f d)
  | .rtO xs => M.ret (.o xs)
  | _ => M.bad
def eFnX (i : Nat) (a : Addr) (r : M Res) : En → M D := fun env => match env[i]? with
  | some (.x a') => if a' = a then M.bind (quiet r) fun z => M.ret z.d else M.bad
  | _ => M.bad
section
variable {P : Program} {w : World} {K : PySem.W.Frag} {mg : Str → Option Value} {base : Heap}
/-- such a def -/
def FnX (P : Program) (w : World) (K : PySem.W.Frag) (mg : Str → Option Value) (base : Heap) (k : Nat) (f : Addr) (fd : FuncData) (x : Str) (m : Bool) (ca : Ct) (r : Addr → Str → M Res) : Prop :=
  ∀ (A : Around) (outer : List PySem.Env) (s : Shared) (args : Args) (Q : VK) (p : Addr × Obj) (c : Str) (g : G) (S : Store), L2H.RoomH k A → L2H.Hot1 A p → L2H.PinOk outer g.H s p → Zc (.ref (ca c)) none p.2 → Env0 P w K mg base A outer s g.H → BindsTo s fd args [(x, .ref p.1)] → SOk ca g S →
    (r p.1 c S).sat (okR m ca g Q) (fun _ _ => False) → codeAny (model P w) A (.call (.ref f) args) (CR (CXf P w) outer P w g.H s Q (fun _ _ _ => False)) s
theorem fn_mkX {x nm qual : Str} {st : Stmt} {f : Addr} {fd : FuncData} {N : List Str} {k : Nat} {m : Bool} {ca : Ct} {dn : Addr → Str → En → M Fl} (F : Fun K nm qual st f fd) (Sc : FnScope N [x] (defScope st))
    (h : ∀ (cdv : Value) (A : Around) (outer : List PySem.Env) (s : Shared) (H : Hp) (p : Addr × Obj) (c : Str), L2H.RoomH k (A.deeper (envOfC qual (defScope st) s.heap.objs.size f cdv)) → p ∈ (L2H.cxH (CXf P w) P w K mg base N qual (defScope st) f cdv A outer s H (fun _ _ _ => False) p).pn → Zc (.ref (ca c)) none p.2 → (∃ vs, p.2.data = .fields vs) → L2H.Hot1 (L2H.cxH (CXf P w) P w K mg base N qual (defScope st) f cdv A outer s H (fun _ _ _ => False) p).A p →
      DSs m (L2H.cxH (CXf P w) P w K mg base N qual (defScope st) f cdv A outer s H (fun _ _ _ => False) p) W0 ca (defBody st) (dn p.1 c)) : FnX P w K mg base (k + 1) f fd x m ca (fnX N.length dn) := by
  obtain ⟨oc, od, kV, doc, pm, an, cdv, ct, osl, rfl, lk, hcd⟩ := F.ex
  intro A outer s args Q p c g S hr hot hpin hz e0 hb hS hq
  have kin : K.In s.heap := e0.mod.kin.keeps fun b u z => (e0.bs b u z).1
  have free : s.heap.NoLimit := e0.mod.nolimit.keeps fun b u z => (e0.bs b u z).1
  have kinds : ∀ y ∈ [x].zip [Value.ref p.1], (defScope st).names.lookup y.1 = some .local ∨ ((defScope st).names.lookup y.1 = some .cell ∧ ((cellsFrom (s.heap.objs.size + 1) (defScope st).names []).lookup y.1).isSome = true) := fun y hy => by
    obtain rfl : y = (x, Value.ref p.1) := by simpa using hy
    exact (Sc.par x List.mem_cons_self).elim .inl fun q => .inr ⟨q, PySem.W.cellsFrom_some _ _ _ (.inl q)⟩
  have hb : BindsTo s _ args ([x].zip [Value.ref p.1]) := hb
  refine codeAny_call_function hr.depth (kin _ _ lk) rfl Sc.co Sc.gen rfl (PySem.W.codeRec_of kin hcd) (hb _ _ _ _ (wpAny_newFunctionEnv_cells Sc.kind kinds fun env he s1 inn => ?_))
  subst he
  refine ⟨free.keeps inn.toInCall.keep, codeAny_func ?_⟩
  have rv : Vals [V.ref p.1] [Value.ref p.1] := .cons rfl .nil
  have I : Inv (L2H.cxH (CXf P w) P w K mg base N qual (defScope st) f cdv A outer s g.H (fun _ _ _ => False) p) [] (L2.start N [.ref p.1]) g.H s1 := L2H.inv_startH Sc hpin e0 rfl rv inn
  obtain ⟨vs0, c0, -⟩ := hot.2
  obtain ⟨t, pt, kt⟩ := h cdv A outer s g.H p c (hr.deeper _) (by simp [L2H.cxH]) hz ⟨vs0, c0⟩ hot
  have hE : EnvOk g.H g (L2.start N [.ref p.1]) (.x p.1 :: List.replicate (N.length - 1) .u) := by
    have hn : 0 < N.length := by
      have := congrArg List.length Sc.pre
      rw [List.length_take] at this
      simp at this
      omega
    refine ⟨by simp [L2.start], fun i v w a b => ?_, fun i j v w w' ne a b c d o o' => ?_⟩
    · cases i with
      | zero =>
        simp [L2.start] at a b
        subst a b
        rfl
      | succ i =>
        rw [List.getElem?_cons_succ, List.getElem?_replicate] at b
        split at b
        · cases b; trivial
        · cases b
    · cases i with
      | zero => simp at c; subst c; cases o
      | succ i =>
        rw [List.getElem?_cons_succ, List.getElem?_replicate] at c
        split at c
        · cases c; cases o
        · cases c
  have fin := kt g g S (L2.start N [.ref p.1]) _ (Ext.refl g) hS hE { nx := fun _ H' => Q .non H', rt := Q } (sat_mono (sat_quiet (E' := noX) (sat_bind hq)) (fun fl S1 q => by
    cases fl with
    | nx env => exact fun g' σ' e _ s1 _ => (show okR m ca g Q (.f .non) S1 from q) g' _ e s1 .non
    | rt d => exact fun g' v e _ s1 r => (show okR m ca g Q (.f d) S1 from q) g' v e s1 r
    | rtO xs => exact fun g' l vs e _ s1 h1 h2 h3 h4 h5 => (show okR m ca g Q (.o xs) S1 from q) g' _ e s1 ⟨l, vs, rfl, h1, h2, h3, h4, h5⟩
    | ex c env => exact q.elim
    | bk env => exact q.elim
    | ct env => exact q.elim) fun _ _ q => q)
  refine wpAny_mono (pt.run [] s1 _ g.H _ I fin) (fun fl s' hs => ?_) fun e s' hs => hs
  match fl, hs with
  | .ret u, ⟨v, σ', H', J, rv, q⟩ => exact ⟨v, H', J.os, J.bare, J.base, J.hok, rv, q⟩
  | .next, ⟨σ', H', J, q⟩ => exact ⟨.non, H', J.os, J.bare, J.base, J.hok, rfl, q⟩
  | .brk, ⟨_, _, _, q⟩ => exact q.elim
  | .cont, ⟨_, _, _, q⟩ => exact q.elim
end
section
variable {m m' : Bool} {X : Cx} {W : WX} {ca : Ct} {a : Addr} {oe : Obj} {c n x fx : Str} {p p1 pos : Pos} {k : Nat} {f : Addr} {fd : FuncData} {r : Addr → Str → M Res}
theorem de_callXH (i : Nat) (F : FnX X.prog X.w X.K X.mg X.base k f fd x m' ca r) (hm' : Fits m m') (hr : L2H.RoomH k X.A) (hot : L2H.Hot1 X.A (a, oe)) (hp : (a, oe) ∈ X.pn) (hz : Zc (.ref (ca c)) none oe) (hm : X.mg fx = some (.ref f)) (hk : PySem.W.keepIn X.K (.ref f) = true) (hb : Binds X.K fd [x] [])
    (hg : Gl X fx := by rfl) (hdb : (fx == ("__debug__" : Str)) = false := by decide) (hN : X.N[i]? = some n := by rfl) (hvis : Vis X.env.scope n := by first | exact Or.inl rfl | exact Or.inr (Or.inl rfl) | exact Or.inr (Or.inr rfl)) (hd : (n == ("__debug__" : Str)) = false := by decide) (hcd : (n == ("__classdict__" : Str)) = false := by decide)
    (he : starEach [.Name n p1] X.env = (false, eval (.Name n p1) X.env) :: starEach [] X.env := by rfl) (hpl : (backTo pos (starEach [] X.env)).any (·.1) = false := by rfl) :
    DE m X W ca (.Call (.Name fx p) [.Name n p1] [] pos) (eFnX i a (r a c)) := by
  refine ⟨fun σ H Q => σ[i]? = some (some (.ref a)) ∧ ∃ g S, g.H = H ∧ SOk ca g S ∧ (r a c S).sat (okR m' ca g Q) (fun _ _ => False), ⟨fun pins s σ H Q I h => ?_⟩, fun H0 g S σ env hS hE Q h => ?_⟩
  · obtain ⟨h1, g, S, rfl, hS, h2⟩ := h
    refine wpAny_Call_Name_kw (ld_glob I hg hm (PySem.W.callWith_K (h₀ := X.base) I.ok.mod.kin hk (thn ((pa_cons (pe_var hN hvis hd hcd) pa_nil he).run pos pins s σ g.H (fun vs H1 => vs = [.ref a] ∧ H1 = g.H) I ⟨_, h1, rfl, rfl⟩) fun us s1 hu => ?_) he hpl) hdb)
    obtain ⟨vs, H1, I1, ru, rfl, rfl⟩ := hu
    refine ⟨I1.kIn, ?_⟩
    match us, ru with
    | [u], .cons rx .nil =>
      obtain rfl : u = Value.ref a := rx
      obtain ⟨q1, q2, q3⟩ := I1.pin (a, oe) (List.mem_append_left _ hp)
      have hpin : L2H.PinOk X.stack g.H s1 (a, oe) := ⟨q1, q2, fun hmem => (List.mem_cons.mp (I1.stkSub a hmem)).elim q3.1 q3.2.1, q3.2.2⟩
      refine wpAny_call (codeAny_mono (F X.A X.stack s1 ⟨[.ref a], []⟩ Q (a, oe) c g S hr hot hpin hz I1.env0 (hb s1 [.ref a] I1.kIn rfl) hS h2) fun res s' hq => ?_)
      match res, hq with
      | .error e, ⟨_, _, _, _, _, _, _, _, _, _, _, _, z⟩ => exact z.elim
      | .ok (.ret u), hq => exact I1.after hq
  · unfold eFnX at h
    cases e : env[i]? with
    | none => rw [e] at h; exact h.elim
    | some w =>
      rw [e] at h
      cases w with
      | x a' =>
        dsimp only at h
        by_cases ha : a' = a
        · subst ha
          rw [if_pos rfl] at h
          obtain ⟨v', h1, h2⟩ := hE.get e
          have h2 : v' = some (.ref a') := h2
          subst h2
          refine ⟨h1, g, S, rfl, hS, ?_⟩
          have h3 := sat_quiet (E' := fun _ _ => False) (sat_bind h)
          cases er : r a' c S with
          | bad => rw [er] at h3; exact h3.elim
          | exc c S1 => rw [er] at h3; exact h3.elim
          | ok z S1 =>
            rw [er] at h3
            exact fun g' v e1 s1 rr => sok_ret (e1.fit hm') s1 rr h3
        · rw [if_neg ha] at h; exact h.elim
      | _ => exact h.elim
theorem de_callX (i : Nat) (F : FnX X.prog X.w X.K X.mg X.base k f fd x m' ca r) (hm' : Fits m m') (hr : L2H.RoomH k X.A) (hh : X.A.handled = some (.ref a)) (hp : (a, oe) ∈ X.pn) (hz : L2N.Zn (.ref (ca c)) none oe) (hf : ∃ vs, oe.data = .fields vs) (hm : X.mg fx = some (.ref f)) (hk : PySem.W.keepIn X.K (.ref f) = true) (hb : Binds X.K fd [x] [])
    (hg : Gl X fx := by rfl) (hdb : (fx == ("__debug__" : Str)) = false := by decide) (hN : X.N[i]? = some n := by rfl) (hvis : Vis X.env.scope n := by first | exact Or.inl rfl | exact Or.inr (Or.inl rfl) | exact Or.inr (Or.inr rfl)) (hd : (n == ("__debug__" : Str)) = false := by decide) (hcd : (n == ("__classdict__" : Str)) = false := by decide)
    (he : starEach [.Name n p1] X.env = (false, eval (.Name n p1) X.env) :: starEach [] X.env := by rfl) (hpl : (backTo pos (starEach [] X.env)).any (·.1) = false := by rfl) :
    DE m X W ca (.Call (.Name fx p) [.Name n p1] [] pos) (eFnX i a (r a c)) := by
  obtain ⟨vs0, hv⟩ := hf
  exact de_callXH i F hm' hr ⟨hh, vs0, hv, hz.2.2 vs0 hv⟩ hp hz.zc hm hk hb hg hdb hN hvis hd hcd he hpl
end
end Dn

namespace Dn
open PySem L2 PyProof.Rows
/-! ### a field's own list is walked, a new dict -/
def iFld (C f : Str) (fo : En → M D) : En → M (List D) := fun env => M.bind (fo env) fun x => fldO C f x fun _ _ xs => M.ret xs
def kNil : En → M (List (Key × D)) := fun _ => M.ret []
section
variable {m q : Bool} {X : Cx} {W : WX} {ca : Ct} {o : Expr} {fo : En → M D} {pos : Pos} {C f : Str}
theorem di_fld (c : Cls X.K (ca C)) (nf : NoAttr X.K (ca C) f) (ho : DE true X W ca o fo) (hb : attributeBase o f X.env (eval o X.env) = eval o X.env := by rfl) (hC : (C == ("" : Str)) = false := by decide) : DI q true X W ca (.Attribute o f pos) (iFld C f fo) := by
  obtain ⟨t, p, k⟩ := ho
  refine ⟨_, fun tg => pi_list (pe_fld p hb), fun H0 g S σ env hS hE R h => ?_⟩
  refine k H0 g S σ env hS hE _ (sat_mono (seqI (P := itP q true ca R) itP.mono h) (fun x S1 z g1 v e1 s1 r1 => ?_) fun _ _ q => q)
  obtain ⟨n, ob, xs, rfl, eS, ec, el, z⟩ := fldO_get (z g1 e1)
  obtain ⟨a, dx, fs, l, vs, rfl, h1, h2, h3, h4, h5, h6, h7⟩ := s1.fld eS r1 el ec hC
  exact ⟨a, ca C, dx, fs, _, rfl, by rw [← ec]; exact h2, c, nf, h4, l, rfl, ⟨vs, SqL.of h6⟩, (show itP q true ca R g1 xs S1 from z) g1 _ (Ext.refl _) s1 (itl_ok (fun g' S e hS => SqL.of ((e.mo.pure rfl).2 _ _ _ h5 h6)) h7)⟩
theorem ds_setLcP {elt tg iter : Expr} {ifs : List Expr} {scope : Scope} {own : List (Str × Nat)} {it : En → M (List D)} {b : D → En → Option En} {ks : List Nat} {ft : En → M Bool} {fe : En → M D} {y : Str} {py spos : Pos} (i : Nat) (hc : X.calm = true) (hN : X.N.Nodup)
    (hy : X.N[i]? = some y) (hyl : X.env.scope.names.lookup y = some .local) (hsw : swapsWith (.ListComp elt [⟨tg, iter, ifs, 0⟩] scope pos) (some (.Name y py)) spos.line X.env = pure true)
    (hi : DI false true X W ca iter it) (ok : BlkOk X.N X.env.scope scope own) (hg : Blk X scope fun Y => DG Y tg b ks) (ht : Blk X scope fun Y => DTs true Y W0 ca ifs ft) (he : Blk X scope fun Y => DE true Y W0 ca elt fe) (hk : ∀ k ∈ ks, k ∈ own.map (·.2) := by decide)
    (hs : ∀ x, foldedSetIterable iter X.env x = pure x := by intro _; rfl) : DS m X W ca (.Assign [.Name y py] (.ListComp elt [⟨tg, iter, ifs, 0⟩] scope pos) spos) (sSetO i (oLc it b ft fe (own.map (·.2)))) := by
  obtain ⟨wi, pi, ki⟩ := hi
  obtain ⟨t1, p1, k1⟩ := allG hg
  obtain ⟨t2, p2, k2⟩ := allT ht
  obtain ⟨t3, p3, k3⟩ := allE he
  exact ⟨_, ps_setLc hc hN hy hyl hsw (pi tg) ok p1 p2 p3 hs, setO_ok (fun H0 g S σ env hS hE Q h => lc_read ki k1 k2 k3 hk H0 g S σ env hS hE Q (sat_mono h (fun d S' q g' a vs e s n h1 h2 h3 r => q g' a vs e.down s n h1 h2 h3 r) fun c S' q g' e s => q g' e.down s))⟩
theorem de_index {a b : Expr} {fa fb : En → M D} {apos cpos : Pos} (ha : DB m X W ca a fa) (hb : DE m X W ca b fb) (hbase : attributeBase a "index" X.env (eval a X.env) = eval a X.env := by rfl)
    (hfew : ((backTo cpos (starEach [b] X.env)).all (fun x => !x.1) && (backToKw cpos (keywordEach [] X.env)).all (fun x => x.1.isSome) && decide (([b] : List Expr).length + ([] : List Keyword).length + (if ([] : List Keyword).isEmpty then 0 else 1) < 30)) = true := by rfl)
    (hline : (apos.endLine == cpos.line) = true := by rfl) (hs : starEach [b] X.env = (false, eval b X.env) :: starEach [] X.env := by rfl) : DE m X W ca (.Call (.Attribute a "index" apos) [b] [] cpos) (eIndex fa fb) := by
  obtain ⟨ta, pa, ka⟩ := ha
  obtain ⟨tb, pb, kb⟩ := hb
  refine ⟨_, pe_bm PySem.F.plainAttrs_list PySem.F.slot_list_index PySem.F.type_list_index mt_index pa (pa_cons pb pa_nil hs) hbase hfew hline hs, fun H0 g S σ env hS hE Q h => ?_⟩
  refine ka H0 g S σ env hS hE _ (sat_mono (seqE h) (fun x S1 z g1 u e1 s1 r1 => ?_) fun _ _ q => q)
  have z := z g1 e1
  cases x with
  | lst xs =>
    obtain ⟨l, vs, rfl, h1, h2⟩ := r1.lst s1
    refine ⟨.inl ⟨rfl, vs, SqL.of h1⟩, ?_⟩
    refine kb H0 g1 S1 σ env s1 (hE.ext e1) _ (sat_mono (seqE z) (fun y S2 z g2 v e2 s2 r2 => ?_) fun _ _ q => q)
    have z := z g2 e2
    by_cases c : flatD y = true ∧ xs.all flatD = true
    · rw [if_pos c] at z
      obtain ⟨w, e3, z⟩ := sat_lift z
      cases e4 : findF y xs with
      | none => rw [e4] at e3; cases e3
      | some j =>
        rw [e4] at e3; cases e3
        obtain ⟨l', vs', el, k1, k2⟩ := (r1.ext s2 e2).lst s2
        cases el
        obtain ⟨⟨d, i1, i2⟩, i3⟩ := findF_is e4
        obtain ⟨u, j1, j2⟩ := k2.get j i1
        have fl := List.all_eq_true.mp c.2
        exact ⟨l, vs', v, j, u, rfl, rfl, SqL.of k1, flat_v r2 c.1, flat_vA k2 c.2, j1, by rw [eqF_v j2 r2 (fl d (List.mem_of_getElem? i1))]; exact i2, fun m' u' hm hu => by
          obtain ⟨d', q1, q2⟩ := k2.getV m' hu
          rw [eqF_v q2 r2 (fl d' (List.mem_of_getElem? q1))]
          exact i3 m' d' hm q1, (show okE m ca g2 Q (.int (j : Nat)) S2 from z) g2 _ (Ext.refl _) s2 (.int _)⟩
    · rw [if_neg c] at z; exact z.elim
  | _ => exact z.elim
theorem dk_nil : DK m X W ca (.Dict [] [] pos) kNil := ⟨_, pe_dnewK, fun H0 g S σ env hS hE Q h a ha => by
  exact (show okK m ca g Q [] S from h) (g.nw a (.dK [])) a [] (ext_nw hS ha _) (sok_nw hS ha _) ha upd_same (hS.free ha) (hS.nop ha) .nil⟩
end
/-! ### the law's def -/
theorem rh_mark {j k : Nat} {A : Around} {hd : Option Value} (r : Room k A) (h : j ≤ k) : L2H.RoomH j (A.mark hd) :=
  ⟨by have := r.dp; show A.depth + 3 * j + 5 < _; omega, by have := r.un; show A.units + 16 * j + 200 < _; omega⟩
theorem rh_u65 {k : Nat} {A : Around} (r : L2H.RoomH k A) : A.units + 65 < cLine := by have := r.un; omega
theorem rh_units {k : Nat} {A : Around} (r : L2H.RoomH k A) : A.units + 64 < cLine := by have := r.un; omega
/-- what the row wants -/
def lawSp (K : PySem.W.Frag) : Sp := fun vs H Q E => ∃ (a : Addr) (ns : List Int), vs = [.ref a] ∧ ns.length ≤ 63 ∧ Only H ∧ SqL K H a (ns.map V.int) ∧ ∀ H', Q (.bl true) H'
theorem law_imp {K : PySem.W.Frag} {f : Fn} {ca : Ct} {m : Bool} (hK : ca.K = K) (hlaw : ∀ ns : List Int, ns.length ≤ 63 → ∃ S', f [.scr ns] [] = .ok (.f (.bl true)) S') : ∀ vs H Q E, lawSp K vs H Q E → spOf m ca 1 f vs H Q E := fun vs H Q E h => by
  obtain ⟨a, ns, rfl, hl, hO, hS, q⟩ := h
  obtain ⟨S', hl⟩ := hlaw ns hl
  refine ⟨rfl, ⟨fun _ => none, H, ⟨fun _ => none, fun b ms => b = a ∧ ms = ns⟩⟩, [], [.scr ns], rfl, ⟨fun _ _ h => (nomatch h), fun _ _ _ h => (nomatch h), fun _ _ _ => rfl, fun _ _ h => (nomatch h), fun n ob h _ => ?_, ?_, fun _ _ h => (nomatch h), fun _ _ _ h => (nomatch h), fun n ob h _ => ?_⟩, .cons (.scr ⟨rfl, rfl⟩) .nil, ?_⟩
  · simp at h
  · rintro b ms ⟨rfl, rfl⟩
    rcases hS with (h | ⟨o, h⟩) | h
    · rcases hO b with z | ⟨o, xs, z⟩
      · rw [h] at z; cases z
      · rw [h] at z; cases z
    · exact .inl ⟨o, h⟩
    · exact .inr fun H' => by rw [hK]; exact .inr h
  · simp at h
  · rw [hl]
    intro g' v _ _ r
    cases r
    exact q _
end Dn

namespace Dn
open PySem L2 PyProof.Rows
/-! ### tables -/
def putD (kvs : List (Key × D)) (k : Key) (v : D) : List (Key × D) :=
  if (kvs.any fun kv => decide (kv.1 = k)) = true then kvs.map (fun kv => if kv.1 = k then (kv.1, v) else kv) else kvs ++ [(k, v)]
def dropD (kvs : List (Key × D)) (k : Key) : List (Key × D) := kvs.filter fun kv => decide (kv.1 ≠ k)
section
variable {F : Hp} {p : Pi}
theorem RpK.any (k : Key) : ∀ {vs : List (Key × V)} {ds : List (Key × D)}, RpK F p vs ds → (vs.any fun kv => decide (kv.1 = k)) = (ds.any fun kv => decide (kv.1 = k))
  | _, _, .nil => rfl
  | _, _, .cons _ t => by simp only [List.any_cons, RpK.any k t]
theorem RpK.length : ∀ {vs : List (Key × V)} {ds : List (Key × D)}, RpK F p vs ds → vs.length = ds.length
  | _, _, .nil => rfl
  | _, _, .cons _ t => by simp only [List.length_cons, RpK.length t]
theorem RpK.appendOne {k : Key} {v : V} {d : D} (h : Rp F p v d) : ∀ {vs : List (Key × V)} {ds : List (Key × D)}, RpK F p vs ds → RpK F p (vs ++ [(k, v)]) (ds ++ [(k, d)])
  | _, _, .nil => .cons h .nil
  | _, _, .cons g t => .cons g (RpK.appendOne h t)
theorem RpK.upd {k : Key} {v : V} {d : D} (h : Rp F p v d) : ∀ {vs : List (Key × V)} {ds : List (Key × D)}, RpK F p vs ds → RpK F p (vs.map fun kv => if kv.1 = k then (kv.1, v) else kv) (ds.map fun kv => if kv.1 = k then (kv.1, d) else kv)
  | _, _, .nil => .nil
  | _, _, .cons (k := k') g t => by
    simp only [List.map_cons]
    by_cases e : k' = k
    · rw [if_pos e, if_pos e]; exact .cons h (RpK.upd h t)
    · rw [if_neg e, if_neg e]; exact .cons g (RpK.upd h t)
theorem RpK.put {k : Key} {v : V} {d : D} (h : Rp F p v d) {vs : List (Key × V)} {ds : List (Key × D)} (r : RpK F p vs ds) : RpK F p (putK vs k v) (putD ds k d) := by
  unfold putK putD
  rw [r.any k]
  split
  · exact r.upd h
  · exact r.appendOne h
theorem RpK.drop (k : Key) : ∀ {vs : List (Key × V)} {ds : List (Key × D)}, RpK F p vs ds → RpK F p (dropK vs k) (dropD ds k)
  | _, _, .nil => .nil
  | _, _, .cons (k := k') (vs := vs) (ds := ds) g t => by
    have ih : RpK F p (dropK vs k) (dropD ds k) := RpK.drop k t
    unfold dropK dropD at ih ⊢
    simp only [List.filter_cons]
    by_cases e : k' = k
    · have h1 : decide (k' ≠ k) = false := by simpa using e
      simp only [h1, Bool.false_eq_true, if_false]
      exact ih
    · have h1 : decide (k' ≠ k) = true := by simpa using e
      simp only [h1, if_true]
      exact .cons g ih
end
theorem length_putD (kvs : List (Key × D)) (k : Key) (v : D) : (putD kvs k v).length ≤ kvs.length + 1 := by
  unfold putD
  split <;> simp

/-! ### lists and dicts that more than one name may mean -/
def rL (xs : List D) : Ob := ⟨"", rawF (.o xs)⟩
def rK (kvs : List (Key × D)) : Ob := ⟨"", rawF (.k kvs)⟩
def Ob.raw (ob : Ob) : Option FV := if ob.cls = ("" : Str) then (match ob.fs with
  | [(f, w)] => if f = ("" : Str) then some w else none
  | _ => none) else none
theorem raw_L (xs : List D) : (rL xs).raw = some (.o xs) := by simp [Ob.raw, rL, rawF]
theorem raw_K (xs : List (Key × D)) : (rK xs).raw = some (.k xs) := by simp [Ob.raw, rK, rawF]
theorem Ob.raw_get {ob : Ob} {w : FV} (h : ob.raw = some w) : ob = ⟨"", rawF w⟩ := by
  obtain ⟨c, fs⟩ := ob
  unfold Ob.raw at h
  by_cases hc : c = ("" : Str)
  · rw [if_pos hc] at h
    match fs, h with
    | [(f, w')], h =>
      dsimp only at h
      by_cases hf : f = ("" : Str)
      · rw [if_pos hf] at h
        cases h
        rw [hc, hf]
        rfl
      · rw [if_neg hf] at h; cases h
  · rw [if_neg hc] at h; cases h
section
variable {ca : Ct} {g : G} {S : Store}
theorem Pi.add_old {p : Pi} {n : Nat} {a b : Addr} {l : Loc} (h : (p.add n a) l = some b) : p l = some b ∨ (l = .ob n ∧ b = a) := by
  cases l with
  | fl k f => exact .inl h
  | ob k =>
    have h : (if k = n then some a else p (.ob k)) = some b := h
    by_cases c : k = n
    · rw [if_pos c] at h; cases h; exact .inr ⟨by rw [c], rfl⟩
    · rw [if_neg c] at h; exact .inl h
theorem Pi.add_self (p : Pi) (n : Nat) (a : Addr) : (p.add n a) (.ob n) = some a := by
  show (if n = n then some a else _) = _
  rw [if_pos rfl]
theorem SOk.nob (hS : SOk ca g S) : g.p (.ob S.length) = none := by
  cases c : g.p (.ob S.length) with
  | none => rfl
  | some b => exact absurd (hS.lt _ _ c) (Nat.lt_irrefl _)
theorem SOk.addn (hS : SOk ca g S) {a b : Addr} {l : Loc} (h : g.p l = some b) : (g.p.add S.length a) l = some b := by
  cases l with
  | fl k f => exact h
  | ob k =>
    show (if k = S.length then some a else g.p (.ob k)) = some b
    rw [if_neg (fun c => by rw [c, hS.nob] at h; cases h)]; exact h
theorem raw_new (hS : SOk ca g S) {q : Addr} {o : HO} {w : FV} (hq : g.H q = some o) (hF : g.F q = none) (hp : ∀ l, g.p l ≠ some q) (hr : RawAt g q (rawF w)) : SOk ca ⟨g.F, g.H, g.p.add S.length q⟩ (S ++ [⟨"", rawF w⟩]) := by
  have le : PiLe g.p (g.p.add S.length q) := ⟨fun n b h => hS.addn h, fun _ _ h => h⟩
  have at0 : ∀ n ob, ¬ n < S.length → (S ++ [(⟨"", rawF w⟩ : Ob)])[n]? = some ob → n = S.length ∧ ob = ⟨"", rawF w⟩ := fun n ob c h => by
    rw [List.getElem?_append_right (by omega)] at h
    have e0 : n - S.length = 0 := by
      cases d : n - S.length with
      | zero => rfl
      | succ j => rw [d] at h; simp at h
    rw [e0] at h
    cases h
    exact ⟨by omega, rfl⟩
  refine ⟨hS.same, fun l l' b h1 h2 => ?_, fun l b h => ?_, fun l b h => ?_, fun n ob h hc => ?_, fun b ns h => hS.sc b ns h, fun n b h => ?_, fun n f b h => ?_, fun n ob h hc => ?_⟩
  · rcases Pi.add_old h1 with q1 | ⟨q1, r1⟩ <;> rcases Pi.add_old h2 with q2 | ⟨q2, r2⟩
    · exact hS.inj _ _ _ q1 q2
    · exact absurd (by rw [← r2]; exact q1) (hp l)
    · exact absurd (by rw [← r1]; exact q2) (hp l')
    · rw [q1, q2]
  · rcases Pi.add_old h with q | ⟨q, r⟩
    · exact hS.out _ _ q
    · rw [r]; exact hF
  · rcases Pi.add_old h with q | ⟨q, r⟩
    · exact hS.live _ _ q
    · rw [r]; exact ⟨_, hq⟩
  · by_cases c : n < S.length
    · rw [List.getElem?_append_left c] at h
      obtain ⟨b, dy, gs, h1, h2, h3⟩ := hS.obs n ob h hc
      exact ⟨b, dy, gs, hS.addn h1, h2, FsOk.kp (g := g) (g' := ⟨g.F, g.H, g.p.add S.length q⟩) (Same.refl _) le (fun l a h => hS.addn h) (fun l b u _ h => h) h3⟩
    · obtain ⟨-, rfl⟩ := at0 n ob c h
      exact absurd rfl hc
  · rw [List.length_append]
    rcases Pi.add_old h with q | ⟨q, r⟩
    · exact Nat.lt_of_lt_of_le (hS.lt _ _ q) (Nat.le_add_right _ _)
    · cases q; simp
  · rw [List.length_append]
    rcases Pi.add_old h with q | ⟨q, r⟩
    · exact Nat.lt_of_lt_of_le (hS.lf _ _ _ q) (Nat.le_add_right _ _)
    · cases q
  · by_cases c : n < S.length
    · rw [List.getElem?_append_left c] at h
      obtain ⟨b, h1, h2⟩ := hS.raw n ob h hc
      exact ⟨b, hS.addn h1, RawAt.mv (g := g) (g' := ⟨g.F, g.H, g.p.add S.length q⟩) (Same.refl _) le (fun _ x => x) h2⟩
    · obtain ⟨rfl, rfl⟩ := at0 n ob c h
      exact ⟨q, Pi.add_self _ _ _, RawAt.mv (g := g) (g' := ⟨g.F, g.H, g.p.add S.length q⟩) (Same.refl _) le (fun _ x => x) hr⟩
theorem raw_ext {g0 : G} (e : Ext false g0 g) (hS : SOk ca g S) {q : Addr} (n : g0.H q = none) : Ext false g0 ⟨g.F, g.H, g.p.add S.length q⟩ :=
  ⟨e.same, fun b o h1 h2 h3 => (by
    obtain ⟨k1, k2, k3⟩ := e.stay b o h1 h2 h3
    refine ⟨k1, k2, fun l z => ?_⟩
    rcases Pi.add_old z with q1 | ⟨_, r⟩
    · exact k3 _ q1
    · rw [r, n] at h1; cases h1), e.obs.trans ⟨fun n b h => hS.addn h, fun _ _ h => h⟩, e.dom, (fun h => nomatch h), e.frz⟩
theorem raw_putW (hS : SOk ca g S) {n : Nat} {ob : Ob} (e : S[n]? = some ob) (hc : ob.cls = rawC) {a : Addr} {u : HO} {w : FV} (ea : g.p (.ob n) = some a) (ho : ∀ x y, g.H a ≠ some (.frz x (.lst y))) (hr : RawAt ⟨g.F, upd g.H a u, g.p⟩ a (rawF w)) : SOk ca ⟨g.F, upd g.H a u, g.p⟩ (S.set n ⟨"", rawF w⟩) := by
  have hn : n < S.length := (List.getElem?_eq_some_iff.mp e).1
  have ne : ∀ l b, l ≠ .ob n → g.p l = some b → b ≠ a := fun l b h1 h2 c => by subst c; exact h1 (hS.inj _ _ _ h2 ea)
  have keep : ∀ l b o, l ≠ .ob n → g.p l = some b → g.H b = some o → upd g.H a u b = some o := fun l b o h1 h2 h3 => by rw [upd_ne (ne l b h1 h2)]; exact h3
  have fv : ∀ k f' v' w', FvOk g k f' v' w' → FvOk ⟨g.F, upd g.H a u, g.p⟩ k f' v' w' := fun k f' v' w' h => by
    cases w' with
    | f d => exact h
    | o xs =>
      obtain ⟨l, vs, h1, h2, h3, h4⟩ := h
      exact ⟨l, vs, h1, h2, keep (.fl k f') l _ (fun q => nomatch q) h2 h3, h4⟩
    | k xs =>
      obtain ⟨l, vs, h1, h2, h3, h4⟩ := h
      exact ⟨l, vs, h1, h2, keep (.fl k f') l _ (fun q => nomatch q) h2 h3, h4⟩
  refine ⟨fun b x h => ?_, hS.inj, hS.out, fun l b h => ?_, fun k ob' h hk => ?_, fun b ns h => ?_, fun k b h => ?_, fun k f b h => ?_, fun k ob' h hk => ?_⟩
  · have : b ≠ a := fun c => by
      subst c
      have q := hS.out _ _ ea
      rw [show g.F b = some x from h] at q; cases q
    show upd g.H a u b = _
    rw [upd_ne this]; exact hS.same _ _ h
  · by_cases c : b = a
    · subst c; exact ⟨u, upd_same⟩
    · obtain ⟨o, h1⟩ := hS.live l b h
      exact ⟨o, by show upd g.H a u b = _; rw [upd_ne c]; exact h1⟩
  · by_cases c : k = n
    · subst c
      rw [List.getElem?_set_self hn] at h
      cases h
      exact absurd rfl hk
    · rw [List.getElem?_set_ne (Ne.symm c)] at h
      obtain ⟨b, dy, gs, h1, h2, h3⟩ := hS.obs k ob' h hk
      refine ⟨b, dy, gs, h1, keep (.ob k) b _ (fun q => c (by cases q; rfl)) h1 h2, ?_⟩
      clear h1 h2 h hk
      generalize ob'.fs = ws at h3
      induction h3 with
      | nil => exact .nil
      | cons h t z ih => exact .cons (fv k _ _ _ h) ih z
  · rcases hS.sc b ns h with ⟨o', h'⟩ | h'
    · refine .inl ⟨o', ?_⟩
      have : b ≠ a := fun c => by subst c; exact ho _ _ h'
      show upd g.H a u b = _
      rw [upd_ne this]; exact h'
    · exact .inr h'
  · rw [List.length_set]; exact hS.lt k b h
  · rw [List.length_set]; exact hS.lf k f b h
  · by_cases c : k = n
    · subst c
      rw [List.getElem?_set_self hn] at h
      cases h
      exact ⟨a, ea, hr⟩
    · rw [List.getElem?_set_ne (Ne.symm c)] at h
      obtain ⟨b, h1, h2⟩ := hS.raw k ob' h hk
      exact ⟨b, h1, RawAt.mv (g := g) (g' := ⟨g.F, upd g.H a u, g.p⟩) (Same.refl _) (PiLe.refl _) (fun o x => keep (.ob k) b o (fun q => c (by cases q; rfl)) h1 x) h2⟩
theorem raw_put (hS : SOk ca g S) {n : Nat} {ob : Ob} (e : S[n]? = some ob) (hc : ob.cls = rawC) {a : Addr} {u : HO} {w : FV} (ea : g.p (.ob n) = some a) (ho : ∀ x y, g.H a ≠ some (.frz x y)) (hr : RawAt ⟨g.F, upd g.H a u, g.p⟩ a (rawF w)) : SOk ca ⟨g.F, upd g.H a u, g.p⟩ (S.set n ⟨"", rawF w⟩) := raw_putW hS e hc ea (fun x y => ho x _) hr
theorem raw_exP {g0 : G} (e : Ext false g0 g) {n : Nat} {a : Addr} {u : HO} (ea : g.p (.ob n) = some a) (ha : ∃ o, g.H a = some o) (hz : ∀ x y, g.H a ≠ some (.frz x y)) : Ext false g0 ⟨g.F, upd g.H a u, g.p⟩ :=
  ⟨e.same, fun b o h1 h2 h3 => by
    obtain ⟨k1, k2, k3⟩ := e.stay b o h1 h2 h3
    exact ⟨by show upd g.H a u b = _; rw [upd_ne (fun c => by subst c; exact k3 _ ea)]; exact k1, k2, k3⟩, e.obs, fun b h => by
    have h : upd g.H a u b = none := h
    by_cases c : b = a
    · subst c; rw [upd_same] at h; cases h
    · rw [upd_ne c] at h; exact e.dom b h, (fun h => nomatch h), fun b x y h => by
    have h1 := e.frz b x y h
    show upd g.H a u b = _
    rw [upd_ne (fun c => by subst c; exact hz _ _ h1)]; exact h1⟩
theorem rawF_inj {a b : FV} (h : rawF a = rawF b) : a = b := by
  unfold rawF at h
  injection h with h _
  injection h with _ h
theorem SOk.rawL (hS : SOk ca g S) {n : Nat} {ob : Ob} {xs : List D} {v : V} (e : S[n]? = some ob) (hr : ob.raw = some (.o xs)) (r : Rp g.F g.p v (.obj n)) : ∃ a vs, v = .ref a ∧ g.p (.ob n) = some a ∧ g.H a = some (.lst vs) ∧ RpA g.F g.p vs xs := by
  have he := Ob.raw_get hr
  subst he
  obtain ⟨a, h1, h2⟩ := hS.raw n _ e rfl
  cases r with
  | obj hp =>
    rw [h1] at hp
    cases hp
    rcases h2 with ⟨vs, ys, h3, h4, h5⟩ | ⟨vs, ys, h3, _⟩ | ⟨vs, ys, o, h3, _⟩
    · cases rawF_inj h3; exact ⟨_, vs, rfl, h1, h4, h5⟩
    · cases rawF_inj h3
    · cases rawF_inj h3
theorem SOk.rawK (hS : SOk ca g S) {n : Nat} {ob : Ob} {xs : List (Key × D)} {v : V} (e : S[n]? = some ob) (hr : ob.raw = some (.k xs)) (r : Rp g.F g.p v (.obj n)) : ∃ a vs, v = .ref a ∧ g.p (.ob n) = some a ∧ g.H a = some (.dK vs) ∧ RpK g.F g.p vs xs := by
  have he := Ob.raw_get hr
  subst he
  obtain ⟨a, h1, h2⟩ := hS.raw n _ e rfl
  cases r with
  | obj hp =>
    rw [h1] at hp
    cases hp
    rcases h2 with ⟨vs, ys, h3, _⟩ | ⟨vs, ys, h3, h4, h5⟩ | ⟨vs, ys, o, h3, _⟩
    · cases rawF_inj h3
    · cases rawF_inj h3; exact ⟨_, vs, rfl, h1, h4, h5⟩
    · cases rawF_inj h3
end
/-- a new list, a new dict, to be meant by more than one name -/
def eNewL (f : En → M (List D)) : En → M D := fun env => M.bind (f env) fun xs => fun S => .ok (.obj S.length) (S ++ [rL xs])
def eNewK (f : En → M (List (Key × D))) : En → M D := fun env => M.bind (f env) fun xs => fun S => .ok (.obj S.length) (S ++ [rK xs])
/-- what is read there for now -/
def rawV (d : D) : M D := fun S => match d with
  | .obj n => match S[n]? with
    | some ob => match ob.raw with
      | some (.o xs) => .ok (.lst xs) S
      | some (.k xs) => .ok (.dct xs) S
      | _ => .ok d S
    | none => .bad
  | d => .ok d S
def eRd (fo : En → M D) : En → M D := fun env => M.bind (fo env) rawV
def onL {α : Type} (d : D) (k : Nat → List D → M α) : M α := fun S => match d with
  | .obj n => match S[n]? with
    | some ob => match ob.raw with
      | some (.o xs) => k n xs S
      | _ => .bad
    | none => .bad
  | _ => .bad
def onK {α : Type} (d : D) (k : Nat → List (Key × D) → M α) : M α := fun S => match d with
  | .obj n => match S[n]? with
    | some ob => match ob.raw with
      | some (.k xs) => k n xs S
      | _ => .bad
    | none => .bad
  | _ => .bad
section
variable {n : Nat} {S : Store} {xs : List D} {kvs : List (Key × D)} {α : Type}
theorem rawV_L (h : S[n]? = some (rL xs)) : rawV (.obj n) S = .ok (.lst xs) S := by unfold rawV; simp only [h, raw_L]
theorem rawV_K (h : S[n]? = some (rK kvs)) : rawV (.obj n) S = .ok (.dct kvs) S := by unfold rawV; simp only [h, raw_K]
theorem rawV_ob {c : Str} {fs : List (Str × FV)} (h : S[n]? = some ⟨c, fs⟩) (hc : (c == ("" : Str)) = false) : rawV (.obj n) S = .ok (.obj n) S := by
  have : Ob.raw ⟨c, fs⟩ = none := by unfold Ob.raw; rw [if_neg (beq_eq_false_iff_ne.mp hc)]
  unfold rawV; simp only [h, this]
theorem rawV_non : rawV .non S = .ok .non S := rfl
theorem rawV_bl (b : Bool) : rawV (.bl b) S = .ok (.bl b) S := rfl
theorem rawV_int (b : Int) : rawV (.int b) S = .ok (.int b) S := rfl
theorem rawV_str (b : Str) : rawV (.str b) S = .ok (.str b) S := rfl
theorem rawV_lst (b : List D) : rawV (.lst b) S = .ok (.lst b) S := rfl
theorem rawV_tup (b : List D) : rawV (.tup b) S = .ok (.tup b) S := rfl
theorem rawV_dct (b : List (Key × D)) : rawV (.dct b) S = .ok (.dct b) S := rfl
theorem rawV_scr (b : List Int) : rawV (.scr b) S = .ok (.scr b) S := rfl
theorem onL_S (h : S[n]? = some (rL xs)) (k : Nat → List D → M α) : onL (.obj n) k S = k n xs S := by unfold onL; simp only [h, raw_L]
theorem onK_S (h : S[n]? = some (rK kvs)) (k : Nat → List (Key × D) → M α) : onK (.obj n) k S = k n kvs S := by unfold onK; simp only [h, raw_K]
theorem onL_get {d : D} {k : Nat → List D → M α} {P : α → Store → Prop} {E : Str → Store → Prop} (h : (onL d k S).sat P E) : ∃ n ob xs, d = .obj n ∧ S[n]? = some ob ∧ ob.raw = some (.o xs) ∧ (k n xs S).sat P E := by
  unfold onL at h
  cases d with
  | obj n =>
    dsimp only at h
    cases e : S[n]? with
    | none => rw [e] at h; exact h.elim
    | some ob =>
      rw [e] at h
      dsimp only at h
      cases e2 : ob.raw with
      | none => rw [e2] at h; exact h.elim
      | some w =>
        rw [e2] at h
        cases w with
        | o xs => exact ⟨n, ob, xs, rfl, e, e2, h⟩
        | _ => exact h.elim
  | _ => exact h.elim
theorem onK_get {d : D} {k : Nat → List (Key × D) → M α} {P : α → Store → Prop} {E : Str → Store → Prop} (h : (onK d k S).sat P E) : ∃ n ob xs, d = .obj n ∧ S[n]? = some ob ∧ ob.raw = some (.k xs) ∧ (k n xs S).sat P E := by
  unfold onK at h
  cases d with
  | obj n =>
    dsimp only at h
    cases e : S[n]? with
    | none => rw [e] at h; exact h.elim
    | some ob =>
      rw [e] at h
      dsimp only at h
      cases e2 : ob.raw with
      | none => rw [e2] at h; exact h.elim
      | some w =>
        rw [e2] at h
        cases w with
        | k xs => exact ⟨n, ob, xs, rfl, e, e2, h⟩
        | _ => exact h.elim
  | _ => exact h.elim
end
section
variable {m : Bool} {X : Cx} {W : WX} {ca : Ct} {o e b : Expr} {fo fa fb : En → M D} {pos pos' : Pos}
theorem de_newL {f : En → M (List D)} (h : DO false X W ca e f) : DE false X W ca e (eNewL f) := by
  obtain ⟨t, p, k⟩ := h
  refine ⟨t, p, fun H0 g S σ env hS hE Q h => k H0 g S σ env hS hE Q (sat_mono (sat_bind h) (fun xs S' z g' a vs e1 s1 n h1 h2 h3 r => ?_) fun _ _ q => q)⟩
  have z : okE false ca g Q (.obj S'.length) (S' ++ [rL xs]) := z
  exact z ⟨g'.F, g'.H, g'.p.add S'.length a⟩ (.ref a) (raw_ext e1 s1 n) (raw_new s1 h1 h2 h3 (.inl ⟨vs, xs, rfl, h1, r⟩)) (.obj (Pi.add_self _ _ _))
theorem de_newK {f : En → M (List (Key × D))} (h : DK false X W ca e f) : DE false X W ca e (eNewK f) := by
  obtain ⟨t, p, k⟩ := h
  refine ⟨t, p, fun H0 g S σ env hS hE Q h => k H0 g S σ env hS hE Q (sat_mono (sat_bind h) (fun xs S' z g' a vs e1 s1 n h1 h2 h3 r => ?_) fun _ _ q => q)⟩
  have z : okE false ca g Q (.obj S'.length) (S' ++ [rK xs]) := z
  exact z ⟨g'.F, g'.H, g'.p.add S'.length a⟩ (.ref a) (raw_ext e1 s1 n) (raw_new s1 h1 h2 h3 (.inr (.inl ⟨vs, xs, rfl, h1, r⟩))) (.obj (Pi.add_self _ _ _))
theorem db_rd (h : DE true X W ca e fa) : DB true X W ca e (eRd fa) := by
  obtain ⟨t, p, k⟩ := h
  refine ⟨t, p, fun H0 g S σ env hS hE Q h => k H0 g S σ env hS hE Q (sat_mono (seqB h) (fun d S1 z g1 v e1 s1 r1 => ?_) fun _ _ q => q)⟩
  have z := z g1 e1
  have self : okB true ca g1 Q d S1 → Q v g1.H := fun z => z g1 v (Ext.refl _) s1 (.inl r1)
  unfold rawV at z
  cases d with
  | obj n =>
    dsimp only at z
    cases e2 : S1[n]? with
    | none => rw [e2] at z; exact z.elim
    | some ob =>
      rw [e2] at z
      dsimp only at z
      cases e3 : ob.raw with
      | none => rw [e3] at z; exact self z
      | some w =>
        rw [e3] at z
        cases w with
        | f _ => exact self z
        | o xs =>
          obtain ⟨a, vs, rfl, h1, h2, h3⟩ := s1.rawL e2 e3 r1
          exact (show okB true ca g1 Q (.lst xs) S1 from z) g1 _ (Ext.refl _) s1 (.inr (.inl ⟨a, vs, xs, rfl, rfl, h2, ⟨s1.out _ _ h1, .inr ⟨rfl, _, h1⟩⟩, h3⟩))
        | k xs =>
          obtain ⟨a, vs, rfl, h1, h2, h3⟩ := s1.rawK e2 e3 r1
          exact (show okB true ca g1 Q (.dct xs) S1 from z) g1 _ (Ext.refl _) s1 (.inr (.inr ⟨a, vs, xs, rfl, rfl, h2, ⟨s1.out _ _ h1, .inr ⟨rfl, _, h1⟩⟩, h3⟩))
  | _ => exact self z
end
end Dn

namespace Dn
open PySem L2 PyProof.Rows
/-! ### d.get(k), d.get(k, x) -/
theorem d_get1None {X : Cx} {pins : List (Addr × Obj)} {σ : L2.St} {H : Hp} {s : Shared} {a : Addr} {kvs : List (Key × V)} {A : Around} {E : Value → Shared → Prop} {Q : Value → Shared → Prop} (I : Inv X pins σ H s) (e : Rd H a (.dK kvs)) (h : ∀ s', Inv X pins σ H s' → Q .none s') :
    wpAny (model X.prog X.w) A (call (.builtin "dict.get") [.ref a, .none]) Q E s := by
  obtain ⟨_, hd, vs, _, dd⟩ := dk_rd I.hok e
  obtain ⟨f, hm, hf⟩ := none_map dd
  refine call_meetsIn PySem.F.slot_dict_get dd.typeIs PySem.F.entry_dict_get (PySem.F.args_dict_get_2 _ _) (meets_dict_get (noneKind X.prog X.w) a (show (noneKind X.prog X.w).is none .none = true from rfl) hd) ⟨_, hm, ?_⟩
  rw [hf]
  exact h _ (I.tok _)
def tDGetN (td ty : TE) : TE := fun σ H Q => td σ H fun x H1 => ∃ a, x = .ref a ∧ IsD H1 a ∧ ty σ H1 fun y H2 => (∃ o, DGet H2 a y o ∧ Q (o.getD .non) H2) ∨ (y = .non ∧ (∃ kvs, Rd H2 a (.dK kvs)) ∧ Q .non H2)
theorem pe_dgetN {X : Cx} {o e : Expr} {apos cpos : Pos} {td ty : TE} (hu : X.A.units + 1 < cLine) (ho : PE X o td) (he : PE X e ty) (m : M1 X o "get" apos e cpos) : PE X (.Call (.Attribute o "get" apos) [e] [] cpos) (tDGetN td ty) := by
  refine ⟨fun pins s σ H Q I h => ?_⟩
  refine wpAny_Call_method m.base m.few m.line PySem.F.plainAttrs_dict PySem.F.slot_dict_get PySem.F.type_dict_get (thn (ho.run pins s σ H _ I h) fun u s1 ⟨x, H1, I1, rx, a, ex, d, q1⟩ => ?_)
  subst ex
  obtain rfl : u = Value.ref a := rx
  obtain ⟨t1, t2, _⟩ := isD_at I1 d
  refine ⟨t1, t2, ?_⟩
  rw [m.trees]
  refine Calls.callWith_builtin rfl (Calls.evalArgs_plain (Calls.spliced_cons (thn (he.run pins s1 σ H1 _ I1 q1) fun iv s2 ⟨y, H2, I2, ry, q2⟩ => Calls.spliced_nil ?_)))
  rcases q2 with ⟨ov, g, q2⟩ | ⟨rfl, ⟨kvs, g⟩, q2⟩
  · exact d_get1 hu I2 g ry fun w' s3 I3 rw' => ⟨_, H2, I3, rw', q2⟩
  · obtain rfl : iv = Value.none := ry
    exact d_get1None I2 g fun s3 I3 => ⟨.non, H2, I3, rfl, q2⟩
def getN (kvs : List (Key × D)) (y : D) : Option D := match keyD y with
  | some k => some ((getK kvs k).getD .non)
  | none => if isN y = true then some .non else none
def eGet1 (fa fb : En → M D) : En → M D := fun env => M.bind (fa env) fun x => match x with
  | .dct kvs => M.bind (fb env) fun y => M.lift (getN kvs y)
  | _ => M.bad
def eGet2 (fa fb fc : En → M D) : En → M D := fun env => M.bind (fa env) fun x => match x with
  | .dct kvs => M.bind (fb env) fun y => M.bind (fc env) fun z => match keyD y with
    | some k => M.ret ((getK kvs k).getD z)
    | none => M.bad
  | _ => M.bad
/-- d[k] = v -/
def sRPut (fo fk fa : En → M D) : En → M Fl := fun env => liftS (fa env) env fun v => liftS (fo env) env fun x => liftS (fk env) env fun y => onK x fun n kvs => match keyD y with
  | some k => if kvs.length < lim then setB n (rK (putD kvs k v)) (.nx env) else M.bad
  | none => M.bad
/-- d.pop(k) -/
def eRPop (fo fk : En → M D) : En → M D := fun env => M.bind (fo env) fun x => onK x fun _ _ => M.bind (fk env) fun y => onK x fun n kvs => match keyD y with
  | some k => match getK kvs k with
    | some d => setB n (rK (dropD kvs k)) d
    | none => M.bad
  | none => M.bad
/-- l.append(e) -/
def sRApp (fo fa : En → M D) : En → M Fl := fun env => liftS (fo env) env fun x => onL x fun _ _ => liftS (fa env) env fun d => onL x fun n xs => if xs.length < lim then setB n (rL (xs ++ [d])) (.nx env) else M.bad
/-- l.pop(i) -/
def eRPopL (fo fi : En → M D) : En → M D := fun env => M.bind (fo env) fun x => onL x fun _ _ => M.bind (fi env) fun i => onL x fun n xs => match i with
  | .int k => match ixN xs.length k with
    | some j => match xs[j]? with
      | some d => if xs.length ≤ lim then setB n (rL (xs.eraseIdx j)) d else M.bad
      | none => M.bad
    | none => M.bad
  | _ => M.bad
/-- l[i] = e -/
def sRSetI (fo fi fa : En → M D) : En → M Fl := fun env => liftS (fa env) env fun d => liftS (fo env) env fun x => liftS (fi env) env fun i => onL x fun n xs => match i with
  | .int k => match ixN xs.length k with
    | some j => setB n (rL (xs.set j d)) (.nx env)
    | none => M.bad
  | _ => M.bad
section
variable {m : Bool} {X : Cx} {W : WX} {ca : Ct} {o e b c : Expr} {fo fa fb fc : En → M D} {pos pos' apos cpos : Pos}
theorem de_get1 (hu : X.A.units + 64 < cLine) (ha : DB m X W ca o fa) (hb : DB m X W ca b fb) (m1 : M1 X o "get" apos b cpos := by exact ⟨rfl, rfl, rfl, rfl⟩) : DE m X W ca (.Call (.Attribute o "get" apos) [b] [] cpos) (eGet1 fa fb) := by
  obtain ⟨ta, pa, ka⟩ := ha
  obtain ⟨tb, pb, kb⟩ := hb
  refine ⟨_, pe_dgetN (by omega) pa pb m1, fun H0 g S σ env hS hE Q h => ?_⟩
  refine ka H0 g S σ env hS hE _ (sat_mono (seqE h) (fun x S1 z g1 v e1 s1 r1 => ?_) fun _ _ q => q)
  have z := z g1 e1
  cases x with
  | dct kvs =>
    obtain ⟨a, vs, rfl, h1, t⟩ := r1.dct s1
    refine ⟨a, rfl, .inl ⟨vs, .inl h1⟩, ?_⟩
    refine kb H0 g1 S1 σ env s1 (hE.ext e1) _ (sat_mono (seqE z) (fun y S2 z g2 u e2 s2 r2 => ?_) fun _ _ q => q)
    obtain ⟨w, hw, z⟩ := sat_lift (z g2 e2)
    obtain ⟨a', vs', ea, h2, t2⟩ := (r1.ext s2 e2).dct s2
    cases ea
    unfold getN at hw
    cases e3 : keyD y with
    | some k =>
      rw [e3] at hw
      cases hw
      left
      rcases getK_v t2 k with ⟨q1, q2⟩ | ⟨d, v, q1, q2, q3⟩
      · rw [q1] at z
        exact ⟨none, by rw [keyD_v (r2.h s2) e3, ← q2]; exact DGet.k h2, (show okE m ca g2 Q .non S2 from z) g2 _ (Ext.refl _) s2 .non⟩
      · rw [q1] at z
        exact ⟨some v, by rw [keyD_v (r2.h s2) e3, ← q2]; exact DGet.k h2, (show okE m ca g2 Q d S2 from z) g2 _ (Ext.refl _) s2 q3⟩
    | none =>
      rw [e3] at hw
      dsimp only at hw
      split at hw
      · rename_i hn
        cases hw
        exact .inr ⟨isN_is (r2.h s2) hn, ⟨vs', .inl h2⟩, (show okE m ca g2 Q .non S2 from z) g2 _ (Ext.refl _) s2 .non⟩
      · cases hw
  | _ => exact z.elim
theorem de_get2 (hu : X.A.units + 64 < cLine) (ha : DB m X W ca o fa) (hb : DB m X W ca b fb) (hc : DE m X W ca c fc) (m2 : M2 X o "get" apos b c cpos := by exact ⟨rfl, rfl, rfl, rfl⟩) : DE m X W ca (.Call (.Attribute o "get" apos) [b, c] [] cpos) (eGet2 fa fb fc) := by
  obtain ⟨ta, pa, ka⟩ := ha
  obtain ⟨tb, pb, kb⟩ := hb
  obtain ⟨tc, pc, kc⟩ := hc
  refine ⟨_, pe_dget2 (by omega) pa pb pc m2, fun H0 g S σ env hS hE Q h => ?_⟩
  refine ka H0 g S σ env hS hE _ (sat_mono (seqE h) (fun x S1 z g1 v e1 s1 r1 => ?_) fun _ _ q => q)
  have z := z g1 e1
  cases x with
  | dct kvs =>
    obtain ⟨a, vs, rfl, h1, t⟩ := r1.dct s1
    refine ⟨a, rfl, .inl ⟨vs, .inl h1⟩, ?_⟩
    refine kb H0 g1 S1 σ env s1 (hE.ext e1) _ (sat_mono (seqE z) (fun y S2 z g2 u e2 s2 r2 => ?_) fun _ _ q => q)
    refine kc H0 g2 S2 σ env s2 ((hE.ext e1).ext e2) _ (sat_mono (seqE (z g2 e2)) (fun w S3 z g3 u' e3 s3 r3 => ?_) fun _ _ q => q)
    have z := z g3 e3
    obtain ⟨a', vs', ea, h2, t2⟩ := ((r1.ext s2 e2).ext s3 e3).dct s3
    cases ea
    cases e4 : keyD y with
    | some k =>
      rw [e4] at z
      dsimp only at z
      rcases getK_v t2 k with ⟨q1, q2⟩ | ⟨d, v, q1, q2, q3⟩
      · rw [q1] at z
        exact ⟨none, by rw [keyD_v ((r2.ext s3 e3).h s3) e4, ← q2]; exact DGet.k h2, (show okE m ca g3 Q w S3 from z) g3 _ (Ext.refl _) s3 r3⟩
      · rw [q1] at z
        exact ⟨some v, by rw [keyD_v ((r2.ext s3 e3).h s3) e4, ← q2]; exact DGet.k h2, (show okE m ca g3 Q d S3 from z) g3 _ (Ext.refl _) s3 q3⟩
    | none => rw [e4] at z; exact z.elim
  | _ => exact z.elim
theorem rawAt_lst {g : G} {a : Addr} {vs : List V} {xs : List D} (h : RpA g.F g.p vs xs) : RawAt ⟨g.F, upd g.H a (.lst vs), g.p⟩ a (rawF (.o xs)) := .inl ⟨vs, xs, rfl, upd_same, h⟩
theorem rawAt_dct {g : G} {a : Addr} {vs : List (Key × V)} {xs : List (Key × D)} (h : RpK g.F g.p vs xs) : RawAt ⟨g.F, upd g.H a (.dK vs), g.p⟩ a (rawF (.k xs)) := .inr (.inl ⟨vs, xs, rfl, upd_same, h⟩)
/-- a list of the store gets the content ys -/
theorem inplL {g0 g : G} (e0 : Ext false g0 g) {S : Store} (hS : SOk ca g S) {n : Nat} {ob : Ob} {xs ys : List D} {a : Addr} {vs ws : List V} (eS : S[n]? = some ob) (hr : ob.raw = some (.o xs)) (ea : g.p (.ob n) = some a) (hH : g.H a = some (.lst vs)) (r : RpA g.F g.p ws ys) :
    Ext false g0 ⟨g.F, upd g.H a (.lst ws), g.p⟩ ∧ SOk ca ⟨g.F, upd g.H a (.lst ws), g.p⟩ (S.set n (rL ys)) :=
  ⟨raw_exP e0 ea ⟨_, hH⟩ (fun x y q => by rw [hH] at q; cases q), raw_put hS eS (by rw [Ob.raw_get hr]) ea (fun x y q => by rw [hH] at q; cases q) (rawAt_lst r)⟩
theorem inplK {g0 g : G} (e0 : Ext false g0 g) {S : Store} (hS : SOk ca g S) {n : Nat} {ob : Ob} {xs ys : List (Key × D)} {a : Addr} {vs ws : List (Key × V)} (eS : S[n]? = some ob) (hr : ob.raw = some (.k xs)) (ea : g.p (.ob n) = some a) (hH : g.H a = some (.dK vs)) (r : RpK g.F g.p ws ys) :
    Ext false g0 ⟨g.F, upd g.H a (.dK ws), g.p⟩ ∧ SOk ca ⟨g.F, upd g.H a (.dK ws), g.p⟩ (S.set n (rK ys)) :=
  ⟨raw_exP e0 ea ⟨_, hH⟩ (fun x y q => by rw [hH] at q; cases q), raw_put hS eS (by rw [Ob.raw_get hr]) ea (fun x y q => by rw [hH] at q; cases q) (rawAt_dct r)⟩
theorem ds_rput (hu : X.A.units + 64 < cLine) (ho : DE false X W ca o fo) (hk : DE false X W ca b fb) (ha : DE false X W ca e fa) (hs : swapsWith e (some (.Subscript o b pos')) pos.line X.env = pure false := by rfl) :
    DS false X W ca (.Assign [.Subscript o b pos'] e pos) (sRPut fo fb fa) := by
  obtain ⟨to, po, ko⟩ := ho
  obtain ⟨tk, pk, kk⟩ := hk
  obtain ⟨ta, pa, ka⟩ := ha
  refine ⟨_, ps_dput (by omega) po pk pa hs, fun g0 g S σ env e0 hS hE D h => ?_⟩
  refine ka g0.H g S σ env hS hE _ (sat_mono (stE e0 hE h) (fun d S1 z g1 v e1 s1 r1 => ?_) fun _ _ q => q)
  refine ko g0.H g1 S1 σ env s1 (hE.ext e1) _ (sat_mono (stE (e0.trans e1) (hE.ext e1) (z g1 e1)) (fun x S2 z g2 u e2 s2 r2 => ?_) fun _ _ q => q)
  refine kk g0.H g2 S2 σ env s2 ((hE.ext e1).ext e2) _ (sat_mono (stE ((e0.trans e1).trans e2) ((hE.ext e1).ext e2) (z g2 e2)) (fun y S3 z g3 w e3 s3 r3 => ?_) fun _ _ q => q)
  obtain ⟨n, ob, kvs, rfl, eS, hr, z⟩ := onK_get (z g3 e3)
  obtain ⟨a, vs, rfl, h1, h2, t⟩ := s3.rawK eS hr (e3.rp r2)
  cases e4 : keyD y with
  | none => rw [e4] at z; exact z.elim
  | some k =>
    rw [e4] at z
    dsimp only at z
    by_cases hl : kvs.length < lim
    · rw [if_pos hl] at z
      have tt := t.put (k := k) (e3.rp (e2.rp r1))
      obtain ⟨ex, sx⟩ := inplK (((e0.trans e1).trans e2).trans e3) s3 eS hr h1 h2 tt
      obtain ⟨ex1, -⟩ := inplK (Ext.refl g3) s3 eS hr h1 h2 tt
      refine ⟨a, _, rfl, ?_, (show okS false ca W g0 g3 D (.nx env) (S3.set n (rK (putD kvs k d))) from z) _ σ ex ex1.mo sx ((((hE.ext e1).ext e2).ext e3).ext ex1)⟩
      rw [keyD_v r3 e4]
      exact DPut.k h2 (by rw [t.length]; exact lim_lt' hl)
    · rw [if_neg hl] at z; exact z.elim
theorem de_rpop (ho : DE false X W ca o fo) (hk : DE true X W ca b fb) (m1 : M1 X o "pop" apos b cpos := by exact ⟨rfl, rfl, rfl, rfl⟩) : DE false X W ca (.Call (.Attribute o "pop" apos) [b] [] cpos) (eRPop fo fb) := by
  obtain ⟨to, po, ko⟩ := ho
  obtain ⟨tk, pk, kk⟩ := hk
  refine ⟨_, pe_dpop1 po pk m1, fun H0 g S σ env hS hE Q h => ?_⟩
  refine ko H0 g S σ env hS hE _ (sat_mono (seqE h) (fun x S1 z g1 v e1 s1 r1 => ?_) fun _ _ q => q)
  obtain ⟨n, ob, kvs, rfl, eS, hr, z⟩ := onK_get (z g1 e1)
  obtain ⟨a, vs, rfl, h1, h2, t⟩ := s1.rawK eS hr r1
  refine ⟨a, rfl, .inl ⟨vs, .inl h2⟩, ?_⟩
  refine kk H0 g1 S1 σ env s1 (hE.ext e1) _ (sat_mono (seqE z) (fun y S2 z g2 u e2 s2 r2 => ?_) fun _ _ q => q.dn)
  have e2' : Ext false g1 g2 := e2.down
  obtain ⟨n', ob2, kvs2, en, eS2, hr2, z⟩ := onK_get (z g2 e2')
  cases en
  obtain ⟨a2, vs2, ea, k1, k2, t2⟩ := s2.rawK eS2 hr2 (e2.rp r1)
  cases ea
  cases e4 : keyD y with
  | none => rw [e4] at z; exact z.elim
  | some k =>
    rw [e4] at z
    dsimp only at z
    rcases getK_v t2 k with ⟨q1, q2⟩ | ⟨d, w, q1, q2, q3⟩
    · rw [q1] at z; exact z.elim
    · rw [q1] at z
      obtain ⟨ex, sx⟩ := inplK (Ext.refl g2) s2 eS2 hr2 k1 k2 (t2.drop k)
      exact ⟨vs2, k, w, k2, keyD_v r2 e4, q2, (show okE false ca g2 Q d (S2.set n (rK (dropD kvs2 k))) from z) _ w ex sx q3⟩
theorem ds_rapp (ho : DE false X W ca o fo) (ha : DE false X W ca e fa) (hbase : attributeBase o "append" X.env (eval o X.env) = eval o X.env := by rfl)
    (hfew : ((backTo cpos (starEach [e] X.env)).all (fun x => !x.1) && (backToKw cpos (keywordEach [] X.env)).all (fun x => x.1.isSome) && decide (([e] : List Expr).length + ([] : List Keyword).length + (if ([] : List Keyword).isEmpty then 0 else 1) < 30)) = true := by rfl)
    (hline : (apos.endLine == cpos.line) = true := by rfl) (hs : starEach [e] X.env = (false, eval e X.env) :: starEach [] X.env := by rfl) (hsw : swapsWith (.Call (.Attribute o "append" apos) [e] [] cpos) none pos.line X.env = pure false := by rfl) :
    DS false X W ca (.Expr (.Call (.Attribute o "append" apos) [e] [] cpos) pos) (sRApp fo fa) := by
  obtain ⟨to, po, ko⟩ := ho
  obtain ⟨ta, pa, ka⟩ := ha
  refine ⟨_, ps_expr (pe_bm PySem.F.plainAttrs_list PySem.F.slot_list_append PySem.F.type_list_append mt_append po (pa_cons pa pa_nil hs) hbase hfew hline hs) hsw, fun g0 g S σ env e0 hS hE D h => ?_⟩
  refine ko g0.H g S σ env hS hE _ (sat_mono (stE e0 hE h) (fun x S1 z g1 u e1 s1 r1 => ?_) fun _ _ q => q)
  obtain ⟨n, ob, xs, rfl, eS, hr, z⟩ := onL_get (z g1 e1)
  obtain ⟨a, vs, rfl, h1, h2, t⟩ := s1.rawL eS hr r1
  refine ⟨.inl ⟨rfl, vs, SqL.of h2⟩, ?_⟩
  refine ka g0.H g1 S1 σ env s1 (hE.ext e1) _ (sat_mono (stE (e0.trans e1) (hE.ext e1) z) (fun d S2 z g2 v e2 s2 r2 => ?_) fun _ _ q => q)
  have e2' : Ext false g1 g2 := e2
  obtain ⟨n', ob2, xs2, en, eS2, hr2, z⟩ := onL_get (z g2 e2')
  cases en
  obtain ⟨a2, vs2, ea, k1, k2, t2⟩ := s2.rawL eS2 hr2 (e2.rp r1)
  cases ea
  by_cases hl : xs2.length < lim
  · rw [if_pos hl] at z
    obtain ⟨ex, sx⟩ := inplL ((e0.trans e1).trans e2') s2 eS2 hr2 k1 k2 (t2.append (.one r2))
    obtain ⟨ex1, -⟩ := inplL (Ext.refl g2) s2 eS2 hr2 k1 k2 (t2.append (.one r2))
    refine ⟨_, vs2, v, rfl, rfl, k2, by rw [t2.length]; exact lim_lt' hl, ?_⟩
    exact (show okS false ca W g0 g2 D (.nx env) (S2.set n (rL (xs2 ++ [d]))) from z) _ σ ex ex1.mo sx (((hE.ext e1).ext e2').ext ex1)
  · rw [if_neg hl] at z; exact z.elim
theorem de_rpopL (ho : DE false X W ca o fo) (ha : DE true X W ca e fa) (hbase : attributeBase o "pop" X.env (eval o X.env) = eval o X.env := by rfl)
    (hfew : ((backTo cpos (starEach [e] X.env)).all (fun x => !x.1) && (backToKw cpos (keywordEach [] X.env)).all (fun x => x.1.isSome) && decide (([e] : List Expr).length + ([] : List Keyword).length + (if ([] : List Keyword).isEmpty then 0 else 1) < 30)) = true := by rfl)
    (hline : (apos.endLine == cpos.line) = true := by rfl) (hs : starEach [e] X.env = (false, eval e X.env) :: starEach [] X.env := by rfl) :
    DE false X W ca (.Call (.Attribute o "pop" apos) [e] [] cpos) (eRPopL fo fa) := by
  obtain ⟨to, po, ko⟩ := ho
  obtain ⟨ta, pa, ka⟩ := ha
  refine ⟨_, pe_bm PySem.F.plainAttrs_list PySem.F.slot_list_pop PySem.F.type_list_pop mt_popAt po (pa_cons pa pa_nil hs) hbase hfew hline hs, fun H0 g S σ env hS hE Q h => ?_⟩
  refine ko H0 g S σ env hS hE _ (sat_mono (seqE h) (fun x S1 z g1 u e1 s1 r1 => ?_) fun _ _ q => q)
  obtain ⟨n, ob, xs, rfl, eS, hr, z⟩ := onL_get (z g1 e1)
  obtain ⟨a, vs, rfl, h1, h2, t⟩ := s1.rawL eS hr r1
  refine ⟨.inl ⟨rfl, vs, SqL.of h2⟩, ?_⟩
  refine ka H0 g1 S1 σ env s1 (hE.ext e1) _ (sat_mono (seqE z) (fun i S2 z g2 v e2 s2 r2 => ?_) fun _ _ q => q.dn)
  have e2' : Ext false g1 g2 := e2.down
  obtain ⟨n', ob2, xs2, en, eS2, hr2, z⟩ := onL_get (z g2 e2')
  cases en
  obtain ⟨a2, vs2, ea, k1, k2, t2⟩ := s2.rawL eS2 hr2 (e2.rp r1)
  cases ea
  cases i with
  | int k =>
    dsimp only at z
    cases ej : ixN xs2.length k with
    | none => rw [ej] at z; exact z.elim
    | some j =>
      rw [ej] at z
      dsimp only at z
      cases ed : xs2[j]? with
      | none => rw [ed] at z; exact z.elim
      | some d =>
        rw [ed] at z
        dsimp only at z
        by_cases hl : xs2.length ≤ lim
        · rw [if_pos hl] at z
          obtain ⟨w, w1, w2⟩ := t2.get j ed
          obtain ⟨ex, sx⟩ := inplL (Ext.refl g2) s2 eS2 hr2 k1 k2 (t2.eraseIdx j)
          obtain ⟨i1, i2, i3, i4⟩ := ixN_seq ej
          have hl' : xs2.length ≤ 1000000 := hl
          cases r2
          refine ⟨_, vs2, k, j, w, rfl, rfl, k2, by omega, by omega, by rw [t2.length]; exact i1, w1, ?_⟩
          exact (show okE false ca g2 Q d (S2.set n (rL (xs2.eraseIdx j))) from z) _ w ex sx w2
        · rw [if_neg hl] at z; exact z.elim
  | _ => exact z.elim
/-- a new dict as data -/
def eK (f : En → M (List (Key × D))) : En → M D := fun env => M.bind (f env) fun xs => M.ret (.dct xs)
theorem de_dct {f : En → M (List (Key × D))} (h : DK m X W ca e f) : DE m X W ca e (eK f) := de_ownK h
/-! ### a walk over a list that may change meanwhile -/
def forR (body : En → M Fl) (b : D → En → Option En) (x : D) : Nat → Nat → En → M Fl
  | 0, _, _ => M.bad
  | n + 1, i, env => onL x fun _ xs => match xs[i]? with
    | none => M.ret (.nx env)
    | some d => match b d env with
      | none => M.bad
      | some env1 => M.bind (body env1) fun fl => match fl with
        | .nx e => forR body b x n (i + 1) e
        | .ct e => forR body b x n (i + 1) e
        | .bk e => M.ret (.nx e)
        | o => M.ret o
def sForR (n : Nat) (fo : En → M D) (b : D → En → Option En) (body : En → M Fl) : En → M Fl := fun env => liftS (fo env) env fun x => onL x fun _ _ => forR body b x n 0 env
theorem ds_forR {tg iter : Expr} {body : List Stmt} {b : D → En → Option En} {ks : List Nat} {f : En → M Fl} (N : Nat) (hp : PassesOwn (model X.prog X.w) X.A X.env X.xe) (hc : X.calm = true) (hi : DE false X W ca iter fo) (hg : DG X tg b ks) (hb : DSs false X W ca body f)
    (hs : ∀ x, foldedSetIterable iter X.env x = pure x := by intro _; rfl) : DS false X W ca (.For tg iter body [] pos) (sForR N fo b f) := by
  obtain ⟨ti, pi, ki⟩ := hi
  obtain ⟨tg', pg, kg⟩ := hg
  obtain ⟨tb, pb, kb⟩ := hb
  refine ⟨_, ps_for hp hc (pi_list pi) pg pb hs, fun g0 g S σ env e0 hS hE D h => ?_⟩
  refine ki g0.H g S σ env hS hE _ (sat_mono (stE e0 hE h) (fun x S1 z g1 v e1 s1 r1 => ?_) fun _ _ q => q)
  obtain ⟨n0, ob0, xs0, rfl, eS0, hr0, z⟩ := onL_get (z g1 e1)
  obtain ⟨a, vs0, rfl, h10, h20, t0⟩ := s1.rawL eS0 hr0 r1
  refine ⟨a, rfl, ⟨vs0, SqL.of h20⟩, ?_⟩
  refine ⟨fun i n σ' H' => ∃ g' S' env', H' = g'.H ∧ Ext false g0 g' ∧ Mo false g1 g' ∧ SOk ca g' S' ∧ EnvOk g0.H g' σ' env' ∧ (forR f b (.obj n0) n i env' S').sat (okS false ca W g0 g' D) noX,
    ⟨N, g1, S1, env, rfl, e0.trans e1, Mo.refl _, s1, hE.ext e1, z⟩, ?_⟩
  rintro i n σ' H' ⟨g', S', env', rfl, e2, m2, s2, hE2, k⟩
  cases n with
  | zero => exact k.elim
  | succ n =>
    unfold forR at k
    obtain ⟨n', ob, xs, en, eS, hr, k⟩ := onL_get k
    cases en
    obtain ⟨a', vs, ea, h1, h2, t⟩ := s2.rawL eS hr (m2.rp r1)
    cases ea
    cases ed : xs[i]? with
    | none =>
      rw [ed] at k
      exact .inl ⟨⟨vs, SqL.of h2, by rw [t.length]; exact List.getElem?_eq_none_iff.mp ed⟩, (show okS false ca W g0 g' D (.nx env') S' from k) g' σ' e2 (Mo.refl _) s2 hE2⟩
    | some d =>
      rw [ed] at k
      dsimp only at k
      obtain ⟨w, w1, w2⟩ := t.get i ed
      refine .inr ⟨⟨vs, w, SqL.of h2, w1⟩, fun σ'' H'' => ∃ g'' S'' env'', H'' = g''.H ∧ Ext false g0 g'' ∧ Mo false g1 g'' ∧ SOk ca g'' S'' ∧ EnvOk g0.H g'' σ'' env'' ∧ (forR f b (.obj n0) n (i + 1) env'' S'').sat (okS false ca W g0 g'' D) noX, fun σ'' H'' w => ⟨n, by omega, w⟩, fun x H'' y => ?_⟩
      obtain ⟨rfl, y2⟩ := y
      have := y2 vs (SqL.of h2)
      rw [w1] at this; cases this
      cases eb : b d env' with
      | none => rw [eb] at k; exact k.elim
      | some env1 =>
        rw [eb] at k
        refine kg g0.H g' σ' env' _ _ env1 s2.same hE2 w2 eb _ fun σ1 hE1 _ => ?_
        refine kb g0 g' S' σ1 env1 e2 s2 hE1 _ (sat_mono (sat_bind k) (fun fl S3 q => ?_) fun _ _ q => q)
        have nxt : ∀ {e : En}, (forR f b (.obj n0) n (i + 1) e S3).sat (okS false ca W g0 g' D) noX → ∀ g3 σ3, Ext false g0 g3 → Mo false g' g3 → SOk ca g3 S3 → EnvOk g0.H g3 σ3 e →
            ∃ g'' S'' env'', g3.H = g''.H ∧ Ext false g0 g'' ∧ Mo false g1 g'' ∧ SOk ca g'' S'' ∧ EnvOk g0.H g'' σ3 env'' ∧ (forR f b (.obj n0) n (i + 1) env'' S'').sat (okS false ca W g0 g'' D) noX := fun {e} q g3 σ3 a b c d =>
          ⟨g3, S3, e, rfl, a, m2.trans b, c, d, sat_mono q (fun _ _ q => q.mono b) fun _ _ q => q⟩
        cases fl with
        | nx e => exact fun g3 σ3 a b c d => nxt q g3 σ3 a b c d
        | ct e => exact fun g3 σ3 a b c d => nxt q g3 σ3 a b c d
        | bk e => exact q
        | rt d => exact q
        | rtO d => exact q
        | ex c e => exact q
end
section
variable {n : Nat} {S : Store} {α : Type}
theorem rawV_obj (n : Nat) (S : Store) : rawV (.obj n) S = (match S[n]? with
    | some ob => match ob.raw with
      | some (.o xs) => .ok (.lst xs) S
      | some (.k xs) => .ok (.dct xs) S
      | _ => .ok (.obj n) S
    | none => .bad) := rfl
theorem onL_obj (n : Nat) (k : Nat → List D → M α) (S : Store) : onL (.obj n) k S = (match S[n]? with
    | some ob => match ob.raw with
      | some (.o xs) => k n xs S
      | _ => .bad
    | none => .bad) := rfl
theorem onK_obj (n : Nat) (k : Nat → List (Key × D) → M α) (S : Store) : onK (.obj n) k S = (match S[n]? with
    | some ob => match ob.raw with
      | some (.k xs) => k n xs S
      | _ => .bad
    | none => .bad) := rfl
theorem raw_mk (c : Str) (fs : List (Str × FV)) : Ob.raw ⟨c, fs⟩ = if c = ("" : Str) then (match fs with
  | [(f, w)] => if f = ("" : Str) then some w else none
  | _ => none) else none := rfl
theorem keyD_str (s : Str) : keyD (.str s) = some (.inr s) := rfl
theorem keyD_int (s : Int) : keyD (.int s) = some (.inl s) := rfl
theorem keyD_non : keyD .non = none := rfl
theorem inD_dct_str (s : Str) (kvs : List (Key × D)) : inD (.str s) (.dct kvs) = some (getK kvs (.inr s)).isSome := rfl
theorem inD_dct_int (s : Int) (kvs : List (Key × D)) : inD (.int s) (.dct kvs) = some (getK kvs (.inl s)).isSome := rfl
theorem inD_dct_non (kvs : List (Key × D)) : inD .non (.dct kvs) = some false := rfl
theorem ninD_dct_str (s : Str) (kvs : List (Key × D)) : ninD (.str s) (.dct kvs) = some (!(getK kvs (.inr s)).isSome) := rfl
theorem ninD_dct_non (kvs : List (Key × D)) : ninD .non (.dct kvs) = some true := rfl
theorem dgetD_str (s : Str) (kvs : List (Key × D)) : dgetD (.dct kvs) (.str s) = getK kvs (.inr s) := rfl
theorem dgetD_int (s : Int) (kvs : List (Key × D)) : dgetD (.dct kvs) (.int s) = getK kvs (.inl s) := rfl
theorem getN_str (s : Str) (kvs : List (Key × D)) : getN kvs (.str s) = some ((getK kvs (.inr s)).getD .non) := rfl
theorem getN_int (s : Int) (kvs : List (Key × D)) : getN kvs (.int s) = some ((getK kvs (.inl s)).getD .non) := rfl
theorem getN_non (kvs : List (Key × D)) : getN kvs .non = some .non := rfl
end
end Dn

namespace Dn
open PySem L2 PyProof.Rows
/-! ### dict displays -/
def mergeD (kvs more : List (Key × D)) : List (Key × D) := more.foldl (fun acc kv => putD acc kv.1 kv.2) kvs
theorem RpK.merge {F : Hp} {p : Pi} : ∀ {ms : List (Key × V)} {es : List (Key × D)}, RpK F p ms es → ∀ {vs : List (Key × V)} {ds : List (Key × D)}, RpK F p vs ds → RpK F p (mergeK vs ms) (mergeD ds es)
  | _, _, .nil, _, _, r => r
  | _, _, .cons h t, _, _, r => RpK.merge t (r.put h)
def DPs (m : Bool) (X : Cx) (W : WX) (ca : Ct) (pos : Pos) (keys : List (Option Expr)) (values : List Expr) (f : En → M (List (Key × D))) : Prop :=
  ∃ trs, PPs X pos keys values trs ∧ ∀ H0 g S σ env, SOk ca g S → EnvOk H0 g σ env → ∀ Q : List (V × V) → Hp → Prop,
    (f env S).sat (fun kvs S' => ∀ g' vs, Ext m g g' → SOk ca g' S' → RpK g'.F g'.p vs kvs → Q (vs.map fun kv => (kV kv.1, kv.2)) g'.H) (exE m ca W g σ) → tPairs trs σ g.H Q
def pNil : En → M (List (Key × D)) := fun _ => M.ret []
def pCons (k : En → M D) (f : En → M D) (r : En → M (List (Key × D))) : En → M (List (Key × D)) := fun env => M.bind (k env) fun y => M.bind (f env) fun d => M.bind (r env) fun ds => match keyD y with
  | some q => M.ret ((q, d) :: ds)
  | none => M.bad
def kDisp (f : En → M (List (Key × D))) : En → M (List (Key × D)) := fun env => M.bind (f env) fun kvs => if kvs.length ≤ 15 then M.ret (mergeD [] kvs) else M.bad
section
variable {m : Bool} {X : Cx} {W : WX} {ca : Ct} {pos : Pos} {k v : Expr} {ks : List (Option Expr)} {vs : List Expr} {fk fv : En → M D} {fr f : En → M (List (Key × D))}
theorem dps_nil : DPs m X W ca pos [] [] pNil := ⟨[], pps_nil, fun H0 g S σ env hS hE Q h => h g [] (Ext.refl g) hS .nil⟩
theorem dps_cons (hk : DE m X W ca k fk) (hv : DE m X W ca v fv) (hr : DPs m X W ca pos ks vs fr) : DPs m X W ca pos (some k :: ks) (v :: vs) (pCons fk fv fr) := by
  obtain ⟨tk, pk, kk⟩ := hk
  obtain ⟨tv, pv, kv⟩ := hv
  obtain ⟨trs, pr, kr⟩ := hr
  refine ⟨_, pps_cons pk pv pr, fun H0 g S σ env hS hE Q h => ?_⟩
  have mono : ∀ g g' (kvs : List (Key × D)) (S' : Store), Ext m g g' → (∀ g2 vs, Ext m g g2 → SOk ca g2 S' → RpK g2.F g2.p vs kvs → Q (vs.map fun kv => (kV kv.1, kv.2)) g2.H) → (∀ g2 vs, Ext m g' g2 → SOk ca g2 S' → RpK g2.F g2.p vs kvs → Q (vs.map fun kv => (kV kv.1, kv.2)) g2.H) := fun g g' kvs S' e h g2 vs e2 => h g2 vs (e.trans e2)
  have h : (M.bind (fk env) (fun y => M.bind (fv env) fun d => M.bind (fr env) fun ds => match keyD y with
    | some q => M.ret ((q, d) :: ds)
    | none => M.bad) S).sat (fun kvs S' => ∀ g' vs, Ext m g g' → SOk ca g' S' → RpK g'.F g'.p vs kvs → Q (vs.map fun kv => (kV kv.1, kv.2)) g'.H) (exE m ca W g σ) := h
  refine kk H0 g S σ env hS hE _ (sat_mono (seqI (g := g) (P := fun g kvs S' => ∀ g' vs, Ext m g g' → SOk ca g' S' → RpK g'.F g'.p vs kvs → Q (vs.map fun kv => (kV kv.1, kv.2)) g'.H) mono h) (fun y S1 z g1 u e1 s1 r1 => ?_) fun _ _ q => q)
  refine kv H0 g1 S1 σ env s1 (hE.ext e1) _ (sat_mono (seqI (g := g1) (P := fun g kvs S' => ∀ g' vs, Ext m g g' → SOk ca g' S' → RpK g'.F g'.p vs kvs → Q (vs.map fun kv => (kV kv.1, kv.2)) g'.H) mono (z g1 e1)) (fun d S2 z g2 w e2 s2 r2 => ?_) fun _ _ q => q)
  refine kr H0 g2 S2 σ env s2 ((hE.ext e1).ext e2) _ (sat_mono (seqI (g := g2) (P := fun g kvs S' => ∀ g' vs, Ext m g g' → SOk ca g' S' → RpK g'.F g'.p vs kvs → Q (vs.map fun kv => (kV kv.1, kv.2)) g'.H) mono (z g2 e2)) (fun ds S3 z g3 vs e3 s3 r3 => ?_) fun _ _ q => q)
  have z := z g3 e3
  cases e4 : keyD y with
  | none => rw [e4] at z; exact z.elim
  | some q =>
    rw [e4] at z
    have ey : u = kV q := keyD_v r1 e4
    subst ey
    have r : RpK g3.F g3.p ((q, w) :: vs) ((q, d) :: ds) := .cons (e3.rp r2) r3
    exact (show ∀ g' vs, Ext m g3 g' → SOk ca g' S3 → RpK g'.F g'.p vs ((q, d) :: ds) → Q (vs.map fun kv => (kV kv.1, kv.2)) g'.H from z) g3 _ (Ext.refl _) s3 r
theorem dk_disp {keys : List (Option Expr)} {values : List Expr} (h : DPs m X W ca pos keys values f) (hall : keys.all (·.isSome) = true := by rfl) (hl : keys.length = values.length := by rfl) (h0 : keys ≠ [] := by intro h; cases h) (h15 : keys.length ≤ 15 := by decide) : DK m X W ca (.Dict keys values pos) (kDisp f) := by
  obtain ⟨trs, p, k⟩ := h
  refine ⟨_, pe_disp p hall hl h0 h15, fun H0 g S σ env hS hE Q h => ?_⟩
  intro a ha
  have e1 := ext_nw (m := m) hS ha (.dK [])
  have s1 := sok_nw hS ha (.dK [])
  refine k H0 (g.nw a (.dK [])) S σ env s1 (hE.ext e1) _ (sat_mono (sat_bind h) (fun kvs S' z g' vs e2 s2 r => ?_) fun c S' q => q.mono e1)
  obtain ⟨t1, t2, t3⟩ := e2.stay a (.dK []) upd_same (hS.free ha) (hS.nop ha)
  by_cases c : kvs.length ≤ 15
  · rw [if_pos c] at z
    refine ⟨t1, vs, rfl, by rw [r.length]; exact c, ?_⟩
    exact (show okK m ca g Q (mergeD [] kvs) S' from z) (g'.wr a (.dK (mergeK [] vs))) a (mergeK [] vs) (ext_wr (e1.trans e2) ha) (sok_wr s2 t1 (by intro _ _ h; cases h) t2 t3) ha upd_same t2 t3 (RpK.merge r .nil)
  · rw [if_neg c] at z; exact z.elim
/-! ### x, y = a, b -/
def sPar2 (i j : Nat) (a : En → M (List D)) : En → M Fl := fun env => liftS (a env) env fun ds => match ds with
  | [x, y] => M.ret (.nx ((env.set i (.f x)).set j (.f y)))
  | _ => M.bad
def sPar3 (i j l : Nat) (a : En → M (List D)) : En → M Fl := fun env => liftS (a env) env fun ds => match ds with
  | [x, y, z] => M.ret (.nx (((env.set i (.f x)).set j (.f y)).set l (.f z)))
  | _ => M.bad
theorem ds_par2 (i j : Nat) {x y : Str} {a b : Expr} {px py pt pt2 : Pos} {kt k2 : Nat} {fa : En → M (List D)} (hc : X.calm = true) (hN : X.N.Nodup) (hi : X.N[i]? = some x) (hj : X.N[j]? = some y) (hx : X.env.scope.names.lookup x = some .local) (hy : X.env.scope.names.lookup y = some .local) (ha : DA m X W ca [a, b] fa) (hij : i ≠ j := by decide)
    (hw : swappedStores [.Tuple [.Name x px, .Name y py] kt pt] (.Tuple [a, b] k2 pt2) X.env = pure (some [x, y]) := by rfl) (hs : swapsWithSole [.Tuple [.Name x px, .Name y py] kt pt] (.Tuple [a, b] k2 pt2) pos.line X.env = pure false := by rfl) :
    DS m X W ca (.Assign [.Tuple [.Name x px, .Name y py] kt pt] (.Tuple [a, b] k2 pt2) pos) (sPar2 i j fa) := by
  obtain ⟨t, p, k⟩ := ha
  refine ⟨_, ps_par hc hN hi hj hij hx hy p hw hs, fun g0 g S σ env e0 hS hE D h => ?_⟩
  refine k g0.H g S σ env hS hE _ (sat_mono (stE e0 hE h) (fun ds S1 q g1 vs e1 s1 r1 => ?_) fun _ _ q => q)
  have q := q g1 e1
  cases r1 with
  | nil => exact q.elim
  | cons r r' =>
    cases r' with
    | nil => exact q.elim
    | cons r2 r'' =>
      cases r'' with
      | cons _ _ => exact q.elim
      | nil => exact ⟨_, _, rfl, (show okS m ca W g0 g1 D (.nx _) S1 from q) g1 _ (e0.trans e1) (Mo.refl _) s1 (((hE.ext e1).set i r).set j r2)⟩
theorem ds_par3 (i j l : Nat) {x y z : Str} {a b c : Expr} {px py pz pt pt2 : Pos} {kt k2 : Nat} {fa : En → M (List D)} (hc : X.calm = true) (hN : X.N.Nodup) (hi : X.N[i]? = some x) (hj : X.N[j]? = some y) (hl : X.N[l]? = some z) (hx : X.env.scope.names.lookup x = some .local) (hy : X.env.scope.names.lookup y = some .local) (hz : X.env.scope.names.lookup z = some .local) (ha : DA m X W ca [a, b, c] fa) (hij : i ≠ j := by decide) (hil : i ≠ l := by decide) (hjl : j ≠ l := by decide)
    (hw : swappedStores [.Tuple [.Name x px, .Name y py, .Name z pz] kt pt] (.Tuple [a, b, c] k2 pt2) X.env = pure (some [x, y, z]) := by rfl) (hs : swapsWithSole [.Tuple [.Name x px, .Name y py, .Name z pz] kt pt] (.Tuple [a, b, c] k2 pt2) pos.line X.env = pure false := by rfl) :
    DS m X W ca (.Assign [.Tuple [.Name x px, .Name y py, .Name z pz] kt pt] (.Tuple [a, b, c] k2 pt2) pos) (sPar3 i j l fa) := by
  obtain ⟨t, p, k⟩ := ha
  refine ⟨_, ps_par3 hc hN hi hj hl hij hil hjl hx hy hz p hw hs, fun g0 g S σ env e0 hS hE D h => ?_⟩
  refine k g0.H g S σ env hS hE _ (sat_mono (stE e0 hE h) (fun ds S1 q g1 vs e1 s1 r1 => ?_) fun _ _ q => q)
  have q := q g1 e1
  cases r1 with
  | nil => exact q.elim
  | cons r r' =>
    cases r' with
    | nil => exact q.elim
    | cons r2 r'' =>
      cases r'' with
      | nil => exact q.elim
      | cons r3 r3' =>
        cases r3' with
        | cons _ _ => exact q.elim
        | nil => exact ⟨_, _, _, rfl, (show okS m ca W g0 g1 D (.nx _) S1 from q) g1 _ (e0.trans e1) (Mo.refl _) s1 ((((hE.ext e1).set i r).set j r2).set l r3)⟩
end
end Dn

namespace Dn
open PySem L2 PyProof.Rows PySem.Spec
/-! ### list.remove, list.clear -/
section
variable {X : Cx}
def rRemD (K : PySem.W.Frag) : V → List V → Hp → VK → Prop := fun x xs H Q => ∃ (l : Addr) (vs : List V) (y : V) (d : PyData) (ds : List PyData) (j : Nat) (z : PyData), x = .ref l ∧ xs = [y] ∧ H l = some (.lst vs) ∧ DpAll K H vs ds ∧ Dp K H y d ∧
  SeqAt.shaped (.list ds) = true ∧ SeqAt.shaped d = true ∧ ds[j]? = some z ∧ PyData.eqv z d = true ∧ (∀ (m : Nat) (z' : PyData), m < j → ds[m]? = some z' → PyData.eqv z' d = false) ∧ Q .non (upd H l (.lst (vs.eraseIdx j)))
theorem vals_erase : ∀ {vs : List V} {us : List Value} (j : Nat), Vals vs us → Vals (vs.eraseIdx j) (us.eraseIdx j)
  | _, _, _, .nil => by simp; exact .nil
  | _, _, 0, .cons h t => t
  | _, _, j + 1, .cons h t => .cons h (vals_erase j t)
theorem mt_removeD (hu : X.A.units + 65 < cLine) : MtM X "list.remove" (rRemD X.K) := by
  intro pins s σ H x xs v us Q I rx rxs h
  obtain ⟨a, vs, y, d, ds, j, z, rfl, rfl, hH, ha, hy, sl, sd, hz, hzj, hno, q⟩ := h
  cases rx
  obtain ⟨uy, rfl, ry⟩ := rxs.one
  obtain ⟨bs, r1⟩ := Dp.reads I d y uy hy ry
  have hxs : PyData.canLayAll0 ds = true := SeqAt.canLay_of_shaped sl
  have hroom : X.A.units + 1 + min (PyData.depthAll ds) d.depth < cLine := room_in_shaped sd hu
  obtain ⟨zz, its, n, rv, hlo, e⟩ := I.lstM hH
  obtain ⟨as, h4⟩ := Dp.readsAll I ds _ its ha rv
  have hn : its.length = ds.length := SeqAt.ReadsAll.length ds its as h4
  have hmap : its.map (SeqAt.readOf s.heap) = ds := SeqAt.readsAll_map ds its as hxs h4
  obtain ⟨hjd, _⟩ := List.getElem?_eq_some_iff.mp hz
  have hjl : j < its.length := by omega
  have hj : j < its.toArray.size := by simpa using hjl
  have at_ : ∀ (m : Nat) (hm : m < its.toArray.size) (z' : PyData), ds[m]? = some z' → SeqAt.readOf s.heap its.toArray[m] = z' := by
    intro m hm z' hz'
    have hml : m < its.length := by simpa using hm
    rw [← hmap, List.getElem?_map, List.getElem?_eq_getElem hml] at hz'
    have e1 : SeqAt.readOf s.heap its[m] = z' := Option.some.inj (show some (SeqAt.readOf s.heap its[m]) = some z' from hz')
    simpa using e1
  refine call_meets PySem.F.slot_list_remove ⟨_, e, rfl⟩ PySem.F.entry_list_remove (PySem.F.args_list_remove_2 _ _)
    (SeqAt.list_removeAt a its.toArray n none #[] uy (fun u => PyData.eqv (SeqAt.readOf s.heap u) d) j hj ?_ ?_ (by rw [List.size_toArray]; omega)) ⟨e, SeqAt.items_eqAt (vs := its.toArray) (show ReadsAll s.heap its.toArray.toList ds as from h4) r1 hxs (SeqAt.canLay_of_shaped sd) hroom, ?_⟩
  · show PyData.eqv (SeqAt.readOf s.heap its.toArray[j]) d = true
    rw [at_ j hj z hz]
    exact hzj
  · intro m hm hmj
    have hmd : m < ds.length := by omega
    have hz' : ds[m]? = some ds[m] := List.getElem?_eq_getElem hmd
    show PyData.eqv (SeqAt.readOf s.heap its.toArray[m]) d = false
    rw [at_ m hm _ hz']
    exact hno m _ hmj hz'
  · have rr := vals_erase j rv
    refine ⟨.non, _, I.lset (its' := its.eraseIdx j) (t' := s.toks) hH e ?_ rr ?_, rfl, q⟩
    · show its.toArray.eraseIdxIfInBounds j = (its.eraseIdx j).toArray
      rw [List.eraseIdxIfInBounds_toArray]
    · have z2 : (vs.eraseIdx j).length ≤ vs.length := by rw [List.length_eraseIdx]; split <;> omega
      omega
end
section
variable {m : Bool} {X : Cx} {W : WX} {ca : Ct} {a b e : Expr} {fa fb : En → M D} {pos : Pos}
def findP (d : PyData) (ds : List PyData) : Option Nat := ds.findIdx? fun z => PyData.eqv z d
def sRem (i : Nat) (a : En → M D) : En → M Fl := onO i fun env xs => liftS (a env) env fun d => if shpD d = true ∧ shpD (.lst xs) = true then (match findP (toPy d) (toPyA xs) with
  | some j => M.ret (.nx (env.set i (.o (xs.eraseIdx j))))
  | none => M.bad) else M.bad
theorem RpA.erase {F : Hp} {p : Pi} : ∀ {vs : List V} {ds : List D} (j : Nat), RpA F p vs ds → RpA F p (vs.eraseIdx j) (ds.eraseIdx j)
  | _, _, _, .nil => by simp; exact .nil
  | _, _, 0, .cons h t => t
  | _, _, j + 1, .cons h t => .cons h (RpA.erase j t)
theorem ds_rem {x : Str} {p0 apos cpos : Pos} (i : Nat) (hu : X.A.units + 65 < cLine) (ha : DE m X W ca a fa) (hK : ca.K = X.K := by rfl) (hN : X.N[i]? = some x := by rfl) (hv : Vis X.env.scope x := by first | exact Or.inl rfl | exact Or.inr (Or.inl rfl) | exact Or.inr (Or.inr rfl)) (hd : (x == ("__debug__" : Str)) = false := by decide)
    (hcd : (x == ("__classdict__" : Str)) = false := by decide) (hbase : attributeBase (.Name x p0) "remove" X.env (eval (.Name x p0) X.env) = eval (.Name x p0) X.env := by rfl)
    (hfew : ((backTo cpos (starEach [a] X.env)).all (fun x => !x.1) && (backToKw cpos (keywordEach [] X.env)).all (fun x => x.1.isSome) && decide (([a] : List Expr).length + ([] : List Keyword).length + (if ([] : List Keyword).isEmpty then 0 else 1) < 30)) = true := by rfl)
    (hline : (apos.endLine == cpos.line) = true := by rfl) (hs : starEach [a] X.env = (false, eval a X.env) :: starEach [] X.env := by rfl) (hsw : swapsWith (.Call (.Attribute (.Name x p0) "remove" apos) [a] [] cpos) none pos.line X.env = pure false := by rfl) :
    DS m X W ca (.Expr (.Call (.Attribute (.Name x p0) "remove" apos) [a] [] cpos) pos) (sRem i fa) := by
  obtain ⟨t, p, k⟩ := ha
  refine ⟨_, ps_expr (pe_bm PySem.F.plainAttrs_list PySem.F.slot_list_remove PySem.F.type_list_remove (mt_removeD hu) (pe_var hN hv hd hcd) (pa_cons p pa_nil hs) hbase hfew hline hs) hsw, fun g0 g S σ env e0 hS hE D h => ?_⟩
  obtain ⟨xs, e, h⟩ := onO_get h
  obtain ⟨q, vs, es, hq, r, hn⟩ := hE.lst e
  refine ⟨_, es, .inl ⟨rfl, vs, SqL.of hq⟩, ?_⟩
  refine k g0.H g S σ env hS hE _ (sat_mono (stE e0 hE h) (fun d S1 z g1 v e1 s1 r1 => ?_) fun _ _ q => q)
  have z := z g1 e1
  obtain ⟨hn1, hq1⟩ := hn.ext hq e1
  by_cases c : shpD d = true ∧ shpD (.lst xs) = true
  · rw [if_pos c] at z
    cases f : findP (toPy d) (toPyA xs) with
    | none => rw [f] at z; exact z.elim
    | some j =>
      rw [f] at z
      have rr := e1.rpA r
      have c2 : SeqAt.shaped (.list (toPyA xs)) = true := c.2
      obtain ⟨hj, hj1, hj2⟩ := List.findIdx?_eq_some_iff_getElem.mp f
      have y1 := dp_of (K := X.K) s1.same r1 (SeqAt.canLay_of_shaped c.1)
      have y2 := dpA_of (K := X.K) s1.same rr (SeqAt.canLay_of_shaped c2)
      exact ⟨q, vs, v, toPy d, toPyA xs, j, (toPyA xs)[j], rfl, rfl, hq1, y2, y1, c2, c.1, List.getElem?_eq_getElem hj, hj1, fun m' z' hm hz => by
        obtain ⟨hl, rfl⟩ := List.getElem?_eq_some_iff.mp hz
        simpa using hj2 m' hm, wr_nx (W := W) (e0.trans e1) s1 (hE.ext e1) e es hq1 hn1 (RpA.erase j rr) z⟩
  · rw [if_neg c] at z; exact z.elim
def sClr (i : Nat) : En → M Fl := onO i fun env xs => M.ret (.nx (env.set i (.o [])))
/-! ### reversed -/
theorem itv_ok {q m : Bool} {ca : Ct} {K : PySem.W.Frag} {g : G} {a : Addr} {vs : List V} {ds : List D} (h : ∀ g' S, Rq q m g g' → SOk ca g' S → SqL K g'.H a vs) (r : RpA g.F g.p vs ds) : ItOk q m ca g (Itv K a vs.length) ds.reverse := fun g' S e hS i => by
  have h' := h g' S e hS
  have r' := e.mo.rpA r
  refine ⟨fun d hd => ?_, fun hl => by show vs.length ≤ i; rw [r'.length]; simpa using hl⟩
  obtain ⟨hi, rfl⟩ := List.getElem?_eq_some_iff.mp hd
  have hi2 : i < ds.length := by simpa using hi
  have e1 : ds[ds.length - 1 - i]? = some ds.reverse[i] := by rw [List.getElem_reverse]; exact List.getElem?_eq_getElem (by omega)
  obtain ⟨v, h1, h2⟩ := r'.get _ e1
  rw [← r'.length] at h1
  refine ⟨⟨by rw [r'.length]; exact hi2, vs, v, h', h1⟩, fun x H' y => ?_⟩
  obtain ⟨y1, y2⟩ := y
  have := y2 vs h'
  rw [h1] at this; cases this
  exact ⟨y1, h2⟩
def iRv (a : En → M D) : En → M (List D) := fun env => M.bind (a env) fun x => match x with
  | .lst xs => M.ret xs.reverse
  | _ => M.bad
theorem di_rev {q : Bool} {p : Pos} (ha : DE m X W ca a fa) (hK : ca.K = X.K := by rfl) (hg : Gl X "reversed" := by rfl) (hm : X.mg "reversed" = none := by assumption) (hs : starEach [a] X.env = [(false, eval a X.env)] := by rfl) : DI q m X W ca (.Call (.Name "reversed" p) [a] [] pos) (iRv fa) := by
  obtain ⟨t, pa, k⟩ := ha
  refine ⟨_, fun tg => pi_reversed hg hm (pa_cons pa pa_nil hs) (hs := hs), fun H0 g S σ env hS hE R h => ?_⟩
  refine k H0 g S σ env hS hE _ (sat_mono (seqI (P := itP q m ca R) itP.mono h) (fun x S1 z g1 v e1 s1 r1 => ?_) fun _ _ q => q)
  have z := z g1 e1
  cases r1 with
  | lst h1 t1 => exact ⟨_, _, rfl, SqL.of (s1.same _ _ h1), (show itP q m ca R g1 _ S1 from z) g1 _ (Ext.refl _) s1 (itv_ok (fun g' S e hS => SqL.of (hS.same _ _ (e.mo.same _ _ h1))) t1)⟩
  | _ => exact z.elim
end
end Dn

namespace Dn
open PySem L2 PyProof.Rows PySem.Spec
/-! ### max(xs, default=d) -/
theorem dep_ints : ∀ ns : List Int, PyData.depthAll (ns.map PyData.int) = 0
  | [] => rfl
  | n :: ns => by
    have ih := dep_ints ns
    rw [List.map_cons]
    simp only [PyData.depthAll, PyData.depth, ih]
    rfl
theorem top_ints (n : Int) : ∀ ns : List Int, ns.foldl max n ∈ n :: ns ∧ ∀ y ∈ n :: ns, y ≤ ns.foldl max n
  | [] => ⟨List.mem_cons_self, fun y hy => by
    simp only [List.mem_cons, List.not_mem_nil, or_false] at hy
    rw [hy]; exact Int.le_refl _⟩
  | k :: r => by
    obtain ⟨h1, h2⟩ := top_ints (max n k) r
    rw [List.foldl_cons]
    refine ⟨?_, fun y hy => ?_⟩
    · rcases List.mem_cons.mp h1 with e | e
      · rw [e]
        by_cases c : n ≤ k
        · rw [Int.max_eq_right c]; exact List.mem_cons_of_mem _ List.mem_cons_self
        · rw [Int.max_eq_left (by omega)]; exact List.mem_cons_self
      · exact List.mem_cons_of_mem _ (List.mem_cons_of_mem _ e)
    · have t := h2 (max n k) List.mem_cons_self
      rcases List.mem_cons.mp hy with rfl | hy
      · omega
      · rcases List.mem_cons.mp hy with rfl | hy
        · omega
        · exact h2 y (List.mem_cons_of_mem _ hy)
def rMaxDf (K : PySem.W.Frag) : List V → List V → Hp → VK → Prop := fun vs zs H Q => ∃ (a : Addr) (ns : List Int) (z : V), vs = [.ref a] ∧ zs = [z] ∧ SqL K H a (ns.map V.int) ∧ (ns = [] → Q z H) ∧ ∀ m ∈ ns, (∀ y ∈ ns, y ≤ m) → Q (.int m) H
theorem cr_maxDf {X : Cx} (hc : X.calm = true) (hu : X.A.units + 64 < cLine) : CallRK X (.builtin "max") [Str.ofString "default"] (rMaxDf X.K) := by
  intro pins s σ H xs zs us ws Q I rx rz h
  obtain ⟨a, ns, z, rfl, rfl, hs, q0, q1⟩ := h
  obtain ⟨its, rv, hl, _⟩ := I.list hs
  obtain ⟨u, rfl, ru⟩ := vals1 rx
  obtain rfl : u = Value.ref a := ru
  obtain ⟨w, rfl, rw_⟩ := vals1 rz
  obtain ⟨as, h4⟩ := Dp.readsAll I (ns.map PyData.int) _ its (ints_dp ns) rv
  refine PySem.W.max_list_default (vs := its.toArray) (xs := ns.map PyData.int) (I.ok.hd hc) hl.isList h4 ⟨fun x hx y hy => ?_, fun x hx => ?_⟩ (by rw [dep_ints]; omega) (fun e h' tk hk => ?_) fun y ys i v h' tk bs e hv rd hk => ?_
  · obtain ⟨i, _, rfl⟩ := List.mem_map.mp hx
    obtain ⟨j, _, rfl⟩ := List.mem_map.mp hy
    rfl
  · obtain ⟨i, _, rfl⟩ := List.mem_map.mp hx
    exact fun e => by cases e
  · exact ⟨z, H, I.kept hk, rw_, q0 (List.map_eq_nil_iff.mp e)⟩
  · cases ns with
    | nil => cases e
    | cons n r =>
      rw [List.map_cons] at e
      injection e with e1 e2
      subst e1 e2
      rw [PySem.W.maxD_ints] at rd
      obtain ⟨t1, t2⟩ := top_ints n r
      cases rd with
      | int _ t => exact ⟨.int _, H, I.kept hk, ⟨t, rfl⟩, q1 _ t1 t2⟩
section
variable {m : Bool} {X : Cx} {W : WX} {ca : Ct} {a b c e : Expr} {fa fb fc : En → M D} {pos : Pos}
def eMaxD (fa fc : En → M D) : En → M D := fun env => M.bind (fa env) fun x => M.bind (fc env) fun y => match x with
  | .lst xs => M.lift ((intsD xs).map fun ns => match greatest ns with
    | some z => .int z
    | none => y)
  | _ => M.bad
theorem greatest_none {ns : List Int} (h : greatest ns = none) : ns = [] := by
  cases ns with
  | nil => rfl
  | cons n r => unfold greatest at h; split at h <;> cases h
theorem de_maxDf {p kp : Pos} (hc : X.calm = true) (hu : X.A.units + 64 < cLine) (ha : DB m X W ca a fa) (hd : DE m X W ca c fc) (hK : ca.K = X.K := by rfl) (hg : Gl X "max" := by rfl) (hm : X.mg "max" = none := by assumption)
    (hs : starEach [a] X.env = (false, eval a X.env) :: starEach [] X.env := by rfl) (he : backTo pos (starEach [a] X.env) = (false, eval a X.env) :: backTo pos (starEach [] X.env) := by rfl) (hpl : (backTo pos (starEach [a] X.env)).any (·.1) = false := by rfl)
    (hall : (backToKw pos (keywordEach [⟨some "default", c, kp⟩] X.env)).all (·.1.isSome) = true := by rfl) (hnone : (backToKw pos (keywordEach [⟨some "default", c, kp⟩] X.env)).any (·.1.isNone) = false := by rfl) (hks : (backToKw pos (keywordEach [⟨some "default", c, kp⟩] X.env)).filterMap (·.1) = [Str.ofString "default"] := by rfl) :
    DE m X W ca (.Call (.Name "max" p) [a] [⟨some "default", c, kp⟩] pos) (eMaxD fa fc) := by
  obtain ⟨t, pa, ka⟩ := ha
  obtain ⟨t2, pc, kc⟩ := hd
  refine ⟨_, pe_callBK (cr_maxDf hc hu) hg hm (by decide +kernel) (pa_cons pa pa_nil hs) (pk_cons pc pk_nil) (by decide) (by decide) he hpl hall hnone hks, fun H0 g S σ env hS hE Q h => ?_⟩
  refine ka H0 g S σ env hS hE _ (sat_mono (seqE h) (fun x S1 q g1 v e1 s1 r1 => ?_) fun _ _ q => q)
  refine kc H0 g1 S1 σ env s1 (hE.ext e1) _ (sat_mono (seqE (q g1 e1)) (fun y S2 q2 g2 u e2 s2 r2 => ?_) fun _ _ q => q)
  have q2 := q2 g2 e2
  have r1' := r1.ext s2 e2
  cases x with
  | lst xs =>
    obtain ⟨z, hz, k⟩ := sat_lift q2
    cases e3 : intsD xs with
    | none => rw [e3] at hz; cases hz
    | some ns =>
      rw [e3] at hz
      obtain ⟨b, vs, rfl, h1, h2⟩ := r1'.lst s2
      cases ints_v h2 e3
      refine ⟨b, ns, u, rfl, rfl, by rw [← hK]; exact SqL.of h1, fun e => ?_, fun w hw hle => ?_⟩
      · subst e
        cases hz
        exact k g2 _ (Ext.refl _) s2 r2
      · cases e4 : greatest ns with
        | none => rw [greatest_none e4] at hw; cases hw
        | some y' =>
          rw [Option.map_some, e4] at hz
          cases hz
          cases greatest_is e4 hw hle
          exact k g2 _ (Ext.refl _) s2 (.int _)
  | _ => exact q2.elim
/-! ### sorted, of pairs of ints -/
def prD : D → Option (Int × Int)
  | .tup [.int i, .int j] => some (i, j)
  | _ => none
def prsD : List D → Option (List (Int × Int))
  | [] => some []
  | d :: ds => (prD d).bind fun p => (prsD ds).map fun ps => p :: ps
def prE (p : Int × Int) : D := .tup [.int p.1, .int p.2]
def leP (p q : Int × Int) : Bool := !SrtO.lexB q p
def sortP (ps : List (Int × Int)) : List (Int × Int) := ps.mergeSort leP
def oSortP (fa : En → M D) : En → M (List D) := fun env => M.bind (fa env) fun x => match x with
  | .lst xs => M.lift ((prsD xs).map fun ps => (sortP ps).map prE)
  | _ => M.bad
theorem prD_is {d : D} {p : Int × Int} (h : prD d = some p) : d = prE p := by
  unfold prD at h
  split at h
  · cases h; rfl
  · cases h
theorem prsD_is : ∀ {ds : List D} {ps : List (Int × Int)}, prsD ds = some ps → ds = ps.map prE
  | [], _, h => by cases h; rfl
  | d :: ds, ps, h => by
    unfold prsD at h
    cases e : prD d with
    | none => rw [e] at h; cases h
    | some p =>
      rw [e, Option.bind_some] at h
      cases e2 : prsD ds with
      | none => rw [e2] at h; cases h
      | some qs =>
        rw [e2] at h; cases h
        rw [prD_is e, prsD_is e2]; rfl
theorem prsD_map : ∀ ps : List (Int × Int), prsD (ps.map prE) = some ps
  | [] => rfl
  | p :: ps => by
    rw [List.map_cons]
    unfold prsD
    rw [show prD (prE p) = some p from rfl, Option.bind_some, prsD_map ps]
    rfl
/-- the pair that an address stands for -/
def keyF (F : Hp) : V → Int × Int
  | .ref a => match F a with
    | some (.tup [.int i, .int j]) => (i, j)
    | _ => (0, 0)
  | _ => (0, 0)
theorem keyF_is {F : Hp} {p : Pi} {v : V} {q : Int × Int} (r : Rp F p v (prE q)) : ∃ t, v = .ref t ∧ F t = some (.tup [.int q.1, .int q.2]) ∧ keyF F v = q := by
  cases r with
  | tup h t =>
    cases t with
    | cons h1 t =>
      cases t with
      | cons h2 t =>
        cases t
        cases h1
        cases h2
        exact ⟨_, rfl, h, by unfold keyF; simp only [h]⟩
theorem leP_lex {p q : Int × Int} : leP p q = true ↔ p.1 < q.1 ∨ (p.1 = q.1 ∧ p.2 ≤ q.2) := by
  unfold leP
  rw [Bool.not_eq_true', SrtO.lexB_no]
  omega
theorem sortP_sorted (ps : List (Int × Int)) : (sortP ps).Pairwise fun a b => leP a b = true := by
  refine List.pairwise_mergeSort (fun a b c h1 h2 => ?_) (fun a b => ?_) ps
  · rw [leP_lex] at *
    omega
  · rw [Bool.or_eq_true, leP_lex, leP_lex]
    omega
theorem sortP_perm (ps : List (Int × Int)) : (sortP ps).Perm ps := List.mergeSort_perm ps leP
theorem sort_uniq : ∀ {l m : List (Int × Int)}, l.Perm m → l.Pairwise (fun a b => leP a b = true) → m.Pairwise (fun a b => leP a b = true) → l = m
  | [], m, h, _, _ => by rw [List.nil_perm.mp h]
  | a :: l, [], h, _, _ => by have := h.length_eq; simp at this
  | a :: l, b :: m, h, h1, h2 => by
    obtain ⟨l1, l2⟩ := List.pairwise_cons.mp h1
    obtain ⟨m1, m2⟩ := List.pairwise_cons.mp h2
    have e : a = b := by
      have ha : a ∈ b :: m := h.mem_iff.mp List.mem_cons_self
      have hb : b ∈ a :: l := h.mem_iff.mpr List.mem_cons_self
      rcases List.mem_cons.mp ha with e | ha
      · exact e
      · rcases List.mem_cons.mp hb with e | hb
        · exact e.symm
        · have x := leP_lex.mp (l1 b hb)
          have y := leP_lex.mp (m1 a ha)
          obtain ⟨a1, a2⟩ := a
          obtain ⟨b1, b2⟩ := b
          simp only at x y
          have z1 : a1 = b1 := by omega
          have z2 : a2 = b2 := by omega
          rw [z1, z2]
    subst e
    rw [sort_uniq (List.perm_cons a |>.mp h) l2 m2]
theorem rpA_of_key {F : Hp} {p : Pi} : ∀ {ys : List V}, (∀ y ∈ ys, Rp F p y (prE (keyF F y))) → RpA F p ys ((ys.map (keyF F)).map prE)
  | [], _ => .nil
  | y :: ys, h => .cons (h y List.mem_cons_self) (rpA_of_key fun z hz => h z (List.mem_cons_of_mem _ hz))
theorem rpA_keys {F : Hp} {p : Pi} : ∀ {xs : List V} {ps : List (Int × Int)}, RpA F p xs (ps.map prE) → xs.map (keyF F) = ps ∧ ∀ x ∈ xs, Rp F p x (prE (keyF F x)) ∧ ∃ t, x = .ref t ∧ F t = some (.tup [.int (keyF F x).1, .int (keyF F x).2])
  | [], [], _ => ⟨rfl, fun x h => by cases h⟩
  | [], q :: qs, r => by cases r
  | x :: xs, [], r => by cases r
  | x :: xs, q :: qs, r => by
    cases r with
    | cons h t =>
      obtain ⟨e1, e2⟩ := rpA_keys t
      obtain ⟨t', k1, k2, k3⟩ := keyF_is h
      refine ⟨by rw [List.map_cons, k3, e1], fun z hz => ?_⟩
      rcases List.mem_cons.mp hz with rfl | hz
      · rw [k3]; exact ⟨h, t', k1, k2⟩
      · exact e2 z hz
theorem do_sortP {p : Pos} (ha : DB m X W ca a fa) (hK : ca.K = X.K := by rfl) (hg : Gl X "sorted" := by rfl) (hm : X.mg "sorted" = none := by assumption) (hs : starEach [a] X.env = (false, eval a X.env) :: starEach [] X.env := by rfl) (hpl : (backTo pos (starEach [] X.env)).any (·.1) = false := by rfl) :
    DO m X W ca (.Call (.Name "sorted" p) [a] [] pos) (oSortP fa) := by
  obtain ⟨t, pa, ka⟩ := ha
  refine ⟨_, pe_callB cr_sortedPO hg hm (by decide +kernel) (pa_cons pa pa_nil hs) (by decide) (by decide) hs hpl, fun H0 g S σ env hS hE Q h => ?_⟩
  refine ka H0 g S σ env hS hE _ (sat_mono (seqO h) (fun x S1 q g1 v e1 s1 r1 => ?_) fun _ _ q => q)
  have q := q g1 e1
  cases x with
  | lst xs =>
    obtain ⟨z, hz, k⟩ := sat_lift q
    cases e3 : prsD xs with
    | none => rw [e3] at hz; cases hz
    | some ps =>
      rw [e3] at hz
      cases hz
      obtain ⟨b, vs, rfl, h1, h2⟩ := r1.lst s1
      rw [prsD_is e3] at h2
      obtain ⟨k1, k2⟩ := rpA_keys h2
      refine ⟨b, vs, keyF g1.F, rfl, by rw [← hK]; exact SqL.of h1, fun x hx => ?_, fun ys p hs hst hp => ?_⟩
      · obtain ⟨_, t', e, ft⟩ := k2 x hx
        exact ⟨t', e, s1.same _ _ ft⟩
      · have pm : (ys.map (keyF g1.F)).Perm ps := by rw [← k1]; exact hst.perm.map _
        have so : (ys.map (keyF g1.F)).Pairwise fun a b => leP a b = true := by
          rw [List.pairwise_map]
          refine hs.imp fun {a b} hab => ?_
          show (!SrtO.lexB _ _) = true
          rw [show SrtO.lexB (keyF g1.F b) (keyF g1.F a) = false from hab]
          rfl
        have e5 := sort_uniq (pm.trans (sortP_perm ps).symm) so (sortP_sorted ps)
        have rr : RpA g1.F g1.p ys ((sortP ps).map prE) := by
          rw [← e5]
          exact rpA_of_key fun y hy => (k2 y (hst.perm.mem_iff.mp hy)).1
        exact k (g1.nw p _) p _ (ext_nw s1 hp _) (sok_nw s1 hp _) hp upd_same (s1.free hp) (s1.nop hp) rr
  | _ => exact q.elim
/-! ### xs.clear(), s.upper() -/
theorem ds_clr {x : Str} {p0 apos cpos : Pos} (i : Nat) (hN : X.N[i]? = some x := by rfl) (hv : Vis X.env.scope x := by first | exact Or.inl rfl | exact Or.inr (Or.inl rfl) | exact Or.inr (Or.inr rfl)) (hd : (x == ("__debug__" : Str)) = false := by decide)
    (hcd : (x == ("__classdict__" : Str)) = false := by decide) (hbase : attributeBase (.Name x p0) "clear" X.env (eval (.Name x p0) X.env) = eval (.Name x p0) X.env := by rfl)
    (hline : (apos.endLine == cpos.line) = true := by rfl) (hsw : swapsWith (.Call (.Attribute (.Name x p0) "clear" apos) [] [] cpos) none pos.line X.env = pure false := by rfl) :
    DS m X W ca (.Expr (.Call (.Attribute (.Name x p0) "clear" apos) [] [] cpos) pos) (sClr i) := by
  refine ⟨_, ps_expr (pe_bm0 PySem.F.plainAttrs_list PySem.F.slot_list_clear PySem.F.type_list_clear mt_clear (pe_var hN hv hd hcd) hbase hline) hsw, fun g0 g S σ env e0 hS hE D h => ?_⟩
  obtain ⟨xs, e, h⟩ := onO_get h
  obtain ⟨q, vs, es, hq, r, hn⟩ := hE.lst e
  refine ⟨_, es, .inl ⟨rfl, vs, SqL.of hq⟩, ?_⟩
  exact ⟨q, vs, rfl, rfl, hq, wr_nx (W := W) e0 hS hE e es hq hn .nil h⟩
def eUp (fa : En → M D) : En → M D := fun env => M.bind (fa env) fun x => match x with
  | .str s => if s.length ≤ lim then M.ret (.str (Txt.upper s)) else M.bad
  | _ => M.bad
theorem de_upper {apos : Pos} (ha : DE m X W ca a fa) (hbase : attributeBase a "upper" X.env (eval a X.env) = eval a X.env := by rfl) (hline : (apos.endLine == pos.line) = true := by rfl) : DE m X W ca (.Call (.Attribute a "upper" apos) [] [] pos) (eUp fa) := by
  obtain ⟨t, pa, ka⟩ := ha
  refine ⟨_, pe_upper pa hbase hline, fun H0 g S σ env hS hE Q h => ?_⟩
  refine ka H0 g S σ env hS hE _ (sat_mono (seqE h) (fun x S1 q g1 v e1 s1 r1 => ?_) fun _ _ q => q)
  have q := q g1 e1
  cases r1 with
  | str s =>
    dsimp only at q
    by_cases c : s.length ≤ lim
    · rw [if_pos c] at q
      exact ⟨⟨s, rfl⟩, s, rfl, rfl, Nat.le_trans c (by decide), (show okE m ca g1 Q (.str (Txt.upper s)) S1 from q) g1 _ (Ext.refl _) s1 (.str _)⟩
    · rw [if_neg c] at q; exact q.elim
  | _ => exact q.elim
end
end Dn

namespace Dn
open PySem L2 PyProof.Rows PySem.Spec
/-! ### lists of the store: clear, remove -/
section
variable {m : Bool} {X : Cx} {W : WX} {ca : Ct} {o e : Expr} {fo fa : En → M D} {pos apos cpos : Pos}
def sRClr (fo : En → M D) : En → M Fl := fun env => liftS (fo env) env fun x => onL x fun n _ => setB n (rL []) (.nx env)
def sRRem (fo fa : En → M D) : En → M Fl := fun env => liftS (fo env) env fun x => onL x fun _ _ => liftS (fa env) env fun d => onL x fun n xs => if shpD d = true ∧ shpD (.lst xs) = true then (match findP (toPy d) (toPyA xs) with
  | some j => setB n (rL (xs.eraseIdx j)) (.nx env)
  | none => M.bad) else M.bad
theorem ds_rclr (ho : DE false X W ca o fo) (hbase : attributeBase o "clear" X.env (eval o X.env) = eval o X.env := by rfl)
    (hline : (apos.endLine == cpos.line) = true := by rfl) (hsw : swapsWith (.Call (.Attribute o "clear" apos) [] [] cpos) none pos.line X.env = pure false := by rfl) :
    DS false X W ca (.Expr (.Call (.Attribute o "clear" apos) [] [] cpos) pos) (sRClr fo) := by
  obtain ⟨to, po, ko⟩ := ho
  refine ⟨_, ps_expr (pe_bm0 PySem.F.plainAttrs_list PySem.F.slot_list_clear PySem.F.type_list_clear mt_clear po hbase hline) hsw, fun g0 g S σ env e0 hS hE D h => ?_⟩
  refine ko g0.H g S σ env hS hE _ (sat_mono (stE e0 hE h) (fun x S1 z g1 u e1 s1 r1 => ?_) fun _ _ q => q)
  obtain ⟨n, ob, xs, rfl, eS, hr, z⟩ := onL_get (z g1 e1)
  obtain ⟨a, vs, rfl, h1, h2, t⟩ := s1.rawL eS hr r1
  obtain ⟨ex, sx⟩ := inplL (ys := []) (e0.trans e1) s1 eS hr h1 h2 .nil
  obtain ⟨ex1, -⟩ := inplL (ys := []) (Ext.refl g1) s1 eS hr h1 h2 .nil
  refine ⟨.inl ⟨rfl, vs, SqL.of h2⟩, _, vs, rfl, rfl, h2, ?_⟩
  exact (show okS false ca W g0 g1 D (.nx env) (S1.set n (rL [])) from z) _ σ ex ex1.mo sx ((hE.ext e1).ext ex1)
theorem ds_rrem (hu : X.A.units + 65 < cLine) (ho : DE false X W ca o fo) (ha : DE false X W ca e fa) (hK : ca.K = X.K := by rfl) (hbase : attributeBase o "remove" X.env (eval o X.env) = eval o X.env := by rfl)
    (hfew : ((backTo cpos (starEach [e] X.env)).all (fun x => !x.1) && (backToKw cpos (keywordEach [] X.env)).all (fun x => x.1.isSome) && decide (([e] : List Expr).length + ([] : List Keyword).length + (if ([] : List Keyword).isEmpty then 0 else 1) < 30)) = true := by rfl)
    (hline : (apos.endLine == cpos.line) = true := by rfl) (hs : starEach [e] X.env = (false, eval e X.env) :: starEach [] X.env := by rfl) (hsw : swapsWith (.Call (.Attribute o "remove" apos) [e] [] cpos) none pos.line X.env = pure false := by rfl) :
    DS false X W ca (.Expr (.Call (.Attribute o "remove" apos) [e] [] cpos) pos) (sRRem fo fa) := by
  obtain ⟨to, po, ko⟩ := ho
  obtain ⟨ta, pa, ka⟩ := ha
  refine ⟨_, ps_expr (pe_bm PySem.F.plainAttrs_list PySem.F.slot_list_remove PySem.F.type_list_remove (mt_removeD hu) po (pa_cons pa pa_nil hs) hbase hfew hline hs) hsw, fun g0 g S σ env e0 hS hE D h => ?_⟩
  refine ko g0.H g S σ env hS hE _ (sat_mono (stE e0 hE h) (fun x S1 z g1 u e1 s1 r1 => ?_) fun _ _ q => q)
  obtain ⟨n, ob, xs, rfl, eS, hr, z⟩ := onL_get (z g1 e1)
  obtain ⟨a, vs, rfl, h1, h2, t⟩ := s1.rawL eS hr r1
  refine ⟨.inl ⟨rfl, vs, SqL.of h2⟩, ?_⟩
  refine ka g0.H g1 S1 σ env s1 (hE.ext e1) _ (sat_mono (stE (e0.trans e1) (hE.ext e1) z) (fun d S2 z g2 v e2 s2 r2 => ?_) fun _ _ q => q)
  have e2' : Ext false g1 g2 := e2
  obtain ⟨n', ob2, xs2, en, eS2, hr2, z⟩ := onL_get (z g2 e2')
  cases en
  obtain ⟨a2, vs2, ea, k1, k2, t2⟩ := s2.rawL eS2 hr2 (e2.rp r1)
  cases ea
  by_cases c : shpD d = true ∧ shpD (.lst xs2) = true
  · rw [if_pos c] at z
    cases f : findP (toPy d) (toPyA xs2) with
    | none => rw [f] at z; exact z.elim
    | some j =>
      rw [f] at z
      dsimp only at z
      have c2 : SeqAt.shaped (.list (toPyA xs2)) = true := c.2
      obtain ⟨hj, hj1, hj2⟩ := List.findIdx?_eq_some_iff_getElem.mp f
      have y1 := dp_of (K := X.K) s2.same r2 (SeqAt.canLay_of_shaped c.1)
      have y2 := dpA_of (K := X.K) s2.same t2 (SeqAt.canLay_of_shaped c2)
      obtain ⟨ex, sx⟩ := inplL ((e0.trans e1).trans e2') s2 eS2 hr2 k1 k2 (RpA.erase j t2)
      obtain ⟨ex1, -⟩ := inplL (Ext.refl g2) s2 eS2 hr2 k1 k2 (RpA.erase j t2)
      exact ⟨a, vs2, v, toPy d, toPyA xs2, j, (toPyA xs2)[j], rfl, rfl, k2, y2, y1, c2, c.1, List.getElem?_eq_getElem hj, hj1, fun m' z' hm hz => by
        obtain ⟨hl, rfl⟩ := List.getElem?_eq_some_iff.mp hz
        simpa using hj2 m' hm, (show okS false ca W g0 g2 D (.nx env) (S2.set n (rL (xs2.eraseIdx j))) from z) _ σ ex ex1.mo sx (((hE.ext e1).ext e2').ext ex1)⟩
  · rw [if_neg c] at z; exact z.elim
end
end Dn

namespace Dn
open PySem L2 PyProof.Rows PySem.Spec
/-! ### products of great numbers; the script's bits -/
section
variable {m : Bool} {X : Cx} {W : WX} {ca : Ct} {a b : Expr} {fa fb : En → M D} {pos : Pos}
def mulXD : D → D → Option D
  | .int i, .int j => if Builtin.Int.intBits i + Builtin.Int.intBits j ≤ 134217728 then some (.int (i * j)) else none
  | _, _ => none
theorem de_mulX (ha : DB m X W ca a fa) (hb : DB m X W ca b fb) : DE m X W ca (.BinOp a .Mult b pos) (eBin mulXD fa fb) := de_bin op_mulX (relI fun x y z h => by
  unfold mulXD at h; split at h
  · split at h
    · rename_i c; cases h; exact ⟨_, _, rfl, rfl, (by unfold CMulX; omega), rfl⟩
    · cases h
  · cases h) ha hb
theorem bits_of {i : Int} {k : Nat} (h : i.natAbs < 2 ^ k) : Builtin.Int.intBits i ≤ k := PyProof.Rows.intBits_le h
theorem bits_back {i : Int} {k : Nat} (h : Builtin.Int.intBits i ≤ k) : i.natAbs < 2 ^ k := by
  by_cases h0 : i = 0
  · subst h0; exact Nat.two_pow_pos k
  · unfold Builtin.Int.intBits at h
    have hb : (i == 0) = false := by simpa using h0
    have hne : i.natAbs ≠ 0 := by omega
    rw [hb] at h
    simp only [Bool.false_eq_true, if_false] at h
    exact (Nat.log2_lt hne).mp h
theorem bits_add {i j : Int} {k : Nat} (h : Builtin.Int.intBits i ≤ k) (hj : Builtin.Int.intBits j ≤ k) : Builtin.Int.intBits (i + j) ≤ k + 1 := by
  have h1 := bits_back h
  have h2 := bits_back hj
  refine bits_of ?_
  rw [Nat.pow_succ]
  omega
theorem bits_mono {i : Int} {j k : Nat} (h : Builtin.Int.intBits i ≤ j) (hk : j ≤ k) : Builtin.Int.intBits i ≤ k := Nat.le_trans h hk
end
/-- what the row wants, the bits told -/
def lawSpB (K : PySem.W.Frag) : Sp := fun vs H Q E => ∃ (a : Addr) (ns : List Int), vs = [.ref a] ∧ ns.length ≤ 63 ∧ (∀ z ∈ ns, Builtin.Int.intBits z ≤ 1048576) ∧ Only H ∧ SqL K H a (ns.map V.int) ∧ ∀ H', Q (.bl true) H'
theorem law_impB {K : PySem.W.Frag} {f : Fn} {ca : Ct} {m : Bool} (hK : ca.K = K) (hlaw : ∀ ns : List Int, ns.length ≤ 63 → (∀ z ∈ ns, Builtin.Int.intBits z ≤ 1048576) → ∃ S', f [.scr ns] [] = .ok (.f (.bl true)) S') : ∀ vs H Q E, lawSpB K vs H Q E → spOf m ca 1 f vs H Q E := fun vs H Q E h => by
  obtain ⟨a, ns, rfl, hl, hb, hO, hS, q⟩ := h
  obtain ⟨S', hl⟩ := hlaw ns hl hb
  refine ⟨rfl, ⟨fun _ => none, H, ⟨fun _ => none, fun b ms => b = a ∧ ms = ns⟩⟩, [], [.scr ns], rfl, ⟨fun _ _ h => (nomatch h), fun _ _ _ h => (nomatch h), fun _ _ _ => rfl, fun _ _ h => (nomatch h), fun n ob h _ => ?_, ?_, fun _ _ h => (nomatch h), fun _ _ _ h => (nomatch h), fun n ob h _ => ?_⟩, .cons (.scr ⟨rfl, rfl⟩) .nil, ?_⟩
  · simp at h
  · rintro b ms ⟨rfl, rfl⟩
    rcases hS with (h | ⟨o, h⟩) | h
    · rcases hO b with z | ⟨o, xs, z⟩
      · rw [h] at z; cases z
      · rw [h] at z; cases z
    · exact .inl ⟨o, h⟩
    · exact .inr fun H' => by rw [hK]; exact .inr h
  · simp at h
  · rw [hl]
    intro g' v _ _ r
    cases r
    exact q _
end Dn

namespace Dn
open PySem L2 PyProof.Rows PySem.Spec
/-! ### a dict of the store that stays while it is walked -/
def rF (kvs : List (Key × D)) : Ob := ⟨"", rawF (.f (.dct kvs))⟩
theorem raw_F (kvs : List (Key × D)) : (rF kvs).raw = some (.f (.dct kvs)) := by simp [Ob.raw, rF, rawF]
def onF {α : Type} (d : D) (k : List (Key × D) → M α) : M α := fun S => match d with
  | .obj n => match S[n]? with
    | some ob => match ob.raw with
      | some (.f (.dct kvs)) => k kvs S
      | _ => .bad
    | none => .bad
  | _ => .bad
theorem onF_S {α : Type} {S : Store} {n : Nat} {kvs : List (Key × D)} (h : S[n]? = some (rF kvs)) (k : List (Key × D) → M α) : onF (.obj n) k S = k kvs S := by unfold onF; simp only [h, raw_F]
theorem onF_obj {α : Type} (n : Nat) (k : List (Key × D) → M α) (S : Store) : onF (.obj n) k S = (match S[n]? with
    | some ob => match ob.raw with
      | some (.f (.dct kvs)) => k kvs S
      | _ => .bad
    | none => .bad) := rfl
theorem onF_get {α : Type} {d : D} {k : List (Key × D) → M α} {S : Store} {P : α → Store → Prop} {E : Str → Store → Prop} (h : (onF d k S).sat P E) : ∃ n ob kvs, d = .obj n ∧ S[n]? = some ob ∧ ob.raw = some (.f (.dct kvs)) ∧ (k kvs S).sat P E := by
  unfold onF at h
  cases d with
  | obj n =>
    dsimp only at h
    cases e : S[n]? with
    | none => rw [e] at h; exact h.elim
    | some ob =>
      rw [e] at h
      dsimp only at h
      cases e2 : ob.raw with
      | none => rw [e2] at h; exact h.elim
      | some w =>
        rw [e2] at h
        cases w with
        | f d =>
          cases d with
          | dct kvs => exact ⟨n, ob, kvs, rfl, e, e2, h⟩
          | _ => exact h.elim
        | _ => exact h.elim
  | _ => exact h.elim
def eLk {α : Type} (fo : En → M D) (fb : En → M α) : En → M α := fun env S => match fo env S with
  | .ok (.obj n) _ => match S[n]? with
    | some ob => match ob.raw with
      | some (.k kvs) => match fb env (S.set n (rF kvs)) with
        | .ok d S2 => match S2[n]? with
          | some ob2 => match ob2.raw with
            | some (.f (.dct kvs2)) => .ok d (S2.set n (rK kvs2))
            | _ => .bad
          | none => .bad
        | _ => .bad
      | _ => .bad
    | none => .bad
  | _ => .bad
theorem eLk_S {α : Type} {fo : En → M D} {fb : En → M α} {env : En} {S S1 S2 : Store} {n : Nat} {kvs : List (Key × D)} {d : α} (h1 : fo env S = .ok (.obj n) S1) (h2 : S[n]? = some (rK kvs)) (h3 : fb env (S.set n (rF kvs)) = .ok d S2) {kvs2 : List (Key × D)} (h4 : S2[n]? = some (rF kvs2)) : eLk fo fb env S = .ok d (S2.set n (rK kvs2)) := by
  unfold eLk
  simp only [h1, h2, raw_K, h3, h4, raw_F]
section
variable {m : Bool} {X : Cx} {W : WX} {ca : Ct} {a b e o : Expr} {fa fb fo : En → M D} {pos : Pos} {g : G} {S : Store}
theorem SOk.rawF' (hS : SOk ca g S) {n : Nat} {ob : Ob} {xs : List (Key × D)} (e : S[n]? = some ob) (hr : ob.raw = some (.f (.dct xs))) : ∃ a vs o, g.p (.ob n) = some a ∧ g.H a = some (.frz o (.dK vs)) ∧ RpK g.F g.p vs xs := by
  have he := Ob.raw_get hr
  subst he
  obtain ⟨a, h1, h2⟩ := hS.raw n _ e rfl
  rcases h2 with ⟨vs, ys, h3, _⟩ | ⟨vs, ys, h3, _⟩ | ⟨vs, ys, o, h3, h4, h5⟩
  · cases rawF_inj h3
  · cases rawF_inj h3
  · cases rawF_inj h3; exact ⟨a, vs, o, h1, h4, h5⟩
theorem SOk.rawK' (hS : SOk ca g S) {n : Nat} {ob : Ob} {xs : List (Key × D)} (e : S[n]? = some ob) (hr : ob.raw = some (.k xs)) : ∃ a vs, g.p (.ob n) = some a ∧ g.H a = some (.dK vs) ∧ RpK g.F g.p vs xs := by
  have he := Ob.raw_get hr
  subst he
  obtain ⟨a, h1, h2⟩ := hS.raw n _ e rfl
  rcases h2 with ⟨vs, ys, h3, _⟩ | ⟨vs, ys, h3, h4, h5⟩ | ⟨vs, ys, o, h3, _⟩
  · cases rawF_inj h3
  · cases rawF_inj h3; exact ⟨a, vs, h1, h4, h5⟩
  · cases rawF_inj h3
/-- what a lock gives, what its end gives -/
theorem lk_in (hS : SOk ca g S) {n : Nat} {ob : Ob} {kvs : List (Key × D)} (e1 : S[n]? = some ob) (e2 : ob.raw = some (.k kvs)) : ∃ a vs, g.p (.ob n) = some a ∧ g.H a = some (.dK vs) ∧ ∀ od, SOk ca ⟨g.F, upd g.H a (.frz od (.dK vs)), g.p⟩ (S.set n (rF kvs)) ∧ Ext false g ⟨g.F, upd g.H a (.frz od (.dK vs)), g.p⟩ := by
  obtain ⟨a, vs, h1, h2, h3⟩ := hS.rawK' e1 e2
  refine ⟨a, vs, h1, h2, fun od => ⟨?_, raw_exP (Ext.refl g) h1 ⟨_, h2⟩ (fun x y q => by rw [h2] at q; cases q)⟩⟩
  exact raw_putW hS e1 (by rw [Ob.raw_get e2]) h1 (fun x y q => by rw [h2] at q; cases q) (.inr (.inr ⟨vs, kvs, od, rfl, upd_same, h3⟩))
theorem lk_out {n : Nat} {a : Addr} {vs : List (Key × V)} {od : Obj} (ea : g.p (.ob n) = some a) (eH : g.H a = some (.dK vs)) {g2 : G} {S2 : Store} (ex : Ext m ⟨g.F, upd g.H a (.frz od (.dK vs)), g.p⟩ g2) (s2 : SOk ca g2 S2) {ob2 : Ob} {kvs2 : List (Key × D)} (e3 : S2[n]? = some ob2) (e4 : ob2.raw = some (.f (.dct kvs2))) :
    g2.H a = some (.frz od (.dK vs)) ∧ SOk ca ⟨g2.F, upd g2.H a (.dK vs), g2.p⟩ (S2.set n (rK kvs2)) ∧ Ext m g ⟨g2.F, upd g2.H a (.dK vs), g2.p⟩ := by
  have hH2 : g2.H a = some (.frz od (.dK vs)) := ex.frz a od _ upd_same
  have ea2 : g2.p (.ob n) = some a := ex.obs.1 _ _ ea
  obtain ⟨a', vs', o', h1, h2, h3⟩ := s2.rawF' e3 e4
  rw [ea2] at h1
  cases h1
  rw [hH2] at h2
  cases h2
  refine ⟨hH2, raw_putW s2 e3 (by rw [Ob.raw_get e4]) ea2 (fun x y q => by rw [hH2] at q; cases q) (.inr (.inl ⟨vs, kvs2, rfl, upd_same, h3⟩)), ⟨ex.same, fun b u h1 h2 h3 => ?_, ex.obs, fun b hb => ?_, fun hm => ?_, fun b x y hb => ?_⟩⟩
  · have ne : b ≠ a := fun c => by subst c; exact h3 _ ea
    obtain ⟨k1, k2, k3⟩ := ex.stay b u (by show upd g.H a _ b = _; rw [upd_ne ne]; exact h1) h2 h3
    exact ⟨by show upd g2.H a _ b = _; rw [upd_ne ne]; exact k1, k2, k3⟩
  · have hb : upd g2.H a (.dK vs) b = none := hb
    by_cases c : b = a
    · subst c; rw [upd_same] at hb; cases hb
    · rw [upd_ne c] at hb
      have := ex.dom b hb
      have : upd g.H a (.frz od (.dK vs)) b = none := this
      rw [upd_ne c] at this
      exact this
  · obtain ⟨p1, p2⟩ := ex.pure hm
    refine ⟨p1, fun l b u hl hb => ?_⟩
    show upd g2.H a (.dK vs) b = _
    by_cases c : b = a
    · subst c; rw [upd_same, ← eH]; exact hb
    · rw [upd_ne c]
      exact p2 l b u hl (by show upd g.H a _ b = _; rw [upd_ne c]; exact hb)
  · have ne : b ≠ a := fun c => by subst c; rw [eH] at hb; cases hb
    show upd g2.H a _ b = _
    rw [upd_ne ne]
    exact ex.frz b x y (by show upd g.H a _ b = _; rw [upd_ne ne]; exact hb)
theorem lk_cases {α : Type} {fb : En → M α} {env : En} {P : α → Store → Prop} {E : Str → Store → Prop} (h : (eLk fo fb env S).sat P E) : ∃ n ob kvs d S2 ob2 kvs2, S[n]? = some ob ∧ ob.raw = some (.k kvs) ∧ fb env (S.set n (rF kvs)) = .ok d S2 ∧ S2[n]? = some ob2 ∧ ob2.raw = some (.f (.dct kvs2)) ∧ P d (S2.set n (rK kvs2)) := by
  unfold eLk at h
  cases h0 : fo env S with
  | ok d0 S0 =>
    rw [h0] at h
    cases d0 with
    | obj n =>
      dsimp only at h
      cases h1 : S[n]? with
      | none => rw [h1] at h; exact h.elim
      | some ob =>
        rw [h1] at h
        dsimp only at h
        cases h2 : ob.raw with
        | none => rw [h2] at h; exact h.elim
        | some w =>
          rw [h2] at h
          cases w with
          | k kvs =>
            dsimp only at h
            cases h3 : fb env (S.set n (rF kvs)) with
            | ok d S2 =>
              rw [h3] at h
              dsimp only at h
              cases h4 : S2[n]? with
              | none => rw [h4] at h; exact h.elim
              | some ob2 =>
                rw [h4] at h
                dsimp only at h
                cases h5 : ob2.raw with
                | none => rw [h5] at h; exact h.elim
                | some w2 =>
                  rw [h5] at h
                  cases w2 with
                  | f d2 =>
                    cases d2 with
                    | dct kvs2 => exact ⟨n, ob, kvs, d, S2, ob2, kvs2, h1, h2, h3, h4, h5, h⟩
                    | _ => exact h.elim
                  | _ => exact h.elim
            | exc c S2 => rw [h3] at h; exact h.elim
            | bad => rw [h3] at h; exact h.elim
          | _ => exact h.elim
    | _ => exact h.elim
  | exc c S2 => rw [h0] at h; exact h.elim
  | bad => rw [h0] at h; exact h.elim
theorem de_lock (fo : En → M D) (hb : DE m X W ca e fb) : DE m X W ca e (eLk fo fb) := by
  obtain ⟨t, p, k⟩ := hb
  refine ⟨_, pe_lock p, fun H0 g S σ env hS hE Q h => ?_⟩
  obtain ⟨n, ob, kvs, d, S2, ob2, kvs2, h1, h2, h3, h4, h5, h⟩ := lk_cases h
  obtain ⟨a, vs, ea, eH, k2⟩ := lk_in hS h1 h2
  refine ⟨a, _, eH, trivial, fun od => ?_⟩
  obtain ⟨s1, x1⟩ := k2 od
  refine k H0 _ _ σ env s1 (hE.ext x1) _ ?_
  rw [h3]
  intro g2 v e2 s2 r2
  obtain ⟨z1, z2, z3⟩ := lk_out (m := m) ea eH e2 s2 h4 h5
  exact ⟨z1, (show okE m ca g Q d (S2.set n (rK kvs2)) from h) _ v z3 z2 r2⟩
theorem do_lock {fb : En → M (List D)} (fo : En → M D) (hb : DO m X W ca e fb) : DO m X W ca e (eLk fo fb) := by
  obtain ⟨t, p, k⟩ := hb
  refine ⟨_, pe_lock p, fun H0 g S σ env hS hE Q h => ?_⟩
  obtain ⟨n, ob, kvs, d, S2, ob2, kvs2, h1, h2, h3, h4, h5, h⟩ := lk_cases h
  obtain ⟨a, vs, ea, eH, k2⟩ := lk_in hS h1 h2
  refine ⟨a, _, eH, trivial, fun od => ?_⟩
  obtain ⟨s1, x1⟩ := k2 od
  refine k H0 _ _ σ env s1 (hE.ext x1) _ ?_
  rw [h3]
  intro g2 q ws e2 s2 n0 q1 q2 q3 r2
  obtain ⟨z1, z2, z3⟩ := lk_out (m := m) ea eH e2 s2 h4 h5
  have n0 : upd g.H a (.frz od (.dK vs)) q = none := n0
  have ne : q ≠ a := fun c => by subst c; rw [upd_same] at n0; cases n0
  rw [upd_ne ne] at n0
  exact ⟨z1, (show okO m ca g Q d (S2.set n (rK kvs2)) from h) _ q ws z3 z2 n0 (by show upd g2.H a _ q = _; rw [upd_ne ne]; exact q1) q2 q3 r2⟩
/-- the keys of a dict that stays -/
def keyV : Key → D
  | .inl i => .int i
  | .inr s => .str s
def iKy (fo : En → M D) : En → M (List D) := fun env => M.bind (fo env) fun x => onF x fun kvs => M.ret (kvs.map fun kv => keyV kv.1)
theorem keys_get : ∀ {F : Hp} {p : Pi} {vs : List (Key × V)} {xs : List (Key × D)}, RpK F p vs xs → vs.length = xs.length ∧ ∀ (i : Nat) (kv : Key × D), xs[i]? = some kv → ∃ v, vs[i]? = some (kv.1, v)
  | _, _, _, _, .nil => ⟨rfl, fun i kv h => by simp at h⟩
  | _, _, _, _, .cons h t => by
    obtain ⟨e1, e2⟩ := keys_get t
    refine ⟨by simp [e1], fun i kv hi => ?_⟩
    cases i with
    | zero => simp at hi; rw [← hi]; exact ⟨_, rfl⟩
    | succ i => exact e2 i kv (by simpa using hi)
theorem itk_ok {q m : Bool} {n : Nat} {a : Addr} {od : Obj} {vs : List (Key × V)} {xs : List (Key × D)} (ea : g.p (.ob n) = some a) (eH : g.H a = some (.frz od (.dK vs))) (r : RpK g.F g.p vs xs) : ItOk q m ca g (Itk a od vs) (xs.map fun kv => keyV kv.1) := fun g' S e hS i => by
  have h' : g'.H a = some (.frz od (.dK vs)) := e.mo.frz a od _ eH
  obtain ⟨l1, l2⟩ := keys_get r
  refine ⟨fun d hd => ?_, fun hl => ⟨h', by rw [l1]; simpa using hl⟩⟩
  rw [List.getElem?_map] at hd
  cases e2 : xs[i]? with
  | none => rw [e2] at hd; cases hd
  | some kv =>
    rw [e2] at hd
    cases hd
    obtain ⟨v, hv⟩ := l2 i kv e2
    refine ⟨⟨h', (List.getElem?_eq_some_iff.mp hv).1⟩, fun x H' y => ?_⟩
    obtain ⟨y1, k, v', y2, y3⟩ := y
    rw [hv] at y2
    cases y2
    refine ⟨y1, ?_⟩
    rw [y3]
    obtain ⟨k1, d1⟩ := kv
    cases k1 with
    | inl i => exact .int i
    | inr s => exact .str s
theorem di_keysF {q : Bool} (ha : DE m X W ca e fo) : DI q m X W ca e (iKy fo) := by
  obtain ⟨t, p, k⟩ := ha
  refine ⟨_, fun tg => pi_keys p, fun H0 g S σ env hS hE R h => ?_⟩
  refine k H0 g S σ env hS hE _ (sat_mono (seqI (P := itP q m ca R) itP.mono h) (fun x S1 z g1 v e1 s1 r1 => ?_) fun _ _ q => q)
  obtain ⟨n, ob, kvs, rfl, h1, h2, z⟩ := onF_get (z g1 e1)
  obtain ⟨a, vs, o, k1, k2, k3⟩ := s1.rawF' h1 h2
  cases r1 with
  | obj hp =>
    rw [k1] at hp
    cases hp
    exact ⟨_, o, rfl, .inl ⟨vs, k2, (show itP q m ca R g1 (kvs.map fun kv => keyV kv.1) S1 from z) g1 _ (Ext.refl _) s1 (itk_ok k1 k2 k3)⟩⟩
/-- an item of a dict that stays -/
def eIxF (fo fi : En → M D) : En → M D := fun env => M.bind (fo env) fun x => M.bind (fi env) fun y => onF x fun kvs => M.lift ((keyD y).bind (getK kvs))
theorem de_ixF (hu : X.A.units + 64 < cLine) (ha : DE m X W ca a fa) (hb : DE m X W ca b fb) (hs : NoSl b := by intro _ _; rfl) : DE m X W ca (.Subscript a b pos) (eIxF fa fb) := by
  obtain ⟨ta, pa, ka⟩ := ha
  obtain ⟨tb, pb, kb⟩ := hb
  refine ⟨_, pe_dget (Nat.lt_of_le_of_lt (Nat.add_le_add_left (by decide : 1 ≤ 64) _) hu) pa pb hs, fun H0 g S σ env hS hE Q h => ?_⟩
  refine ka H0 g S σ env hS hE _ (sat_mono (seqE h) (fun x S1 z g1 v e1 s1 r1 => ?_) fun _ _ q => q)
  refine kb H0 g1 S1 σ env s1 (hE.ext e1) _ (sat_mono (seqE (z g1 e1)) (fun y S2 z2 g2 w e2 s2 r2 => ?_) fun _ _ q => q)
  obtain ⟨n, ob, kvs, rfl, h1, h2, z3⟩ := onF_get (z2 g2 e2)
  obtain ⟨c, vs, od, k1, k2, k3⟩ := s2.rawF' h1 h2
  have r1 := e2.rp r1
  cases r1 with
  | obj hp =>
    rw [k1] at hp
    cases hp
    obtain ⟨d, hd, z3⟩ := sat_lift z3
    cases e1 : keyD y with
    | none => rw [e1] at hd; cases hd
    | some q =>
      rw [e1] at hd
      have hd : getK kvs q = some d := hd
      rcases getK_v k3 q with ⟨g1', _⟩ | ⟨d', v', g1', g2', g3'⟩
      · rw [g1'] at hd; cases hd
      · rw [g1'] at hd; cases hd
        refine ⟨_, v', rfl, .inl ⟨vs, q, .inr ⟨od, k2⟩, keyD_v (Rp.mono s2.same (PiLe.refl _) r2) e1, g2'.symm⟩, (show okE m ca g2 Q _ S2 from z3) g2 v' (Ext.refl _) s2 g3'⟩
def rEqDL : R2 := fun x y H Q => ∃ a b ks ls, x = .ref a ∧ y = .ref b ∧ H a = some (.dK ks) ∧ H b = some (.dK ls) ∧ ks.length ≠ ls.length ∧ Q (.bl false) H
theorem op_eq_dictL (hu : X.A.units < cLine) : OpR X (compareOp .Eq) rEqDL := by
  intro pins s σ H x y v u Q I rx ry h
  obtain ⟨a, b, ks, ls, rfl, rfl, ea, eb, hlen, q⟩ := h
  obtain rfl : v = Value.ref a := rx
  obtain rfl : u = Value.ref b := ry
  obtain ⟨_, ya, va, ra, da⟩ := (show ObjOk X.prog X.w H s.heap a (.dK ks) from I.hok a _ ea)
  obtain ⟨_, yb, vb, rb, db⟩ := (show ObjOk X.prog X.w H s.heap b (.dK ls) from I.hok b _ eb)
  have hl : va.length ≠ vb.length := by rw [← ra.length, ← rb.length]; exact hlen
  exact PySem.W.keq_eq (knd := mixKind X.prog X.w) (r := true) ya yb da db hu (fun z => absurd z hl) (fin_bl I q (by simp [hl]))
/-- is a dict of the store empty? -/
def tEqE (fa : En → M D) : En → M Bool := fun env => M.bind (fa env) fun x => onK x fun _ kvs => M.ret kvs.isEmpty
theorem dt_eqE {p2 : Pos} (hu : X.A.units + 64 < cLine) (ha : DE m X W ca a fa) : DT m X W ca (.Compare a [.Eq] [.Dict [] [] p2] pos) (tEqE fa) := by
  obtain ⟨ta, pa, ka⟩ := ha
  obtain ⟨tb, pb, kb⟩ := (dk_nil : DK m X W ca (.Dict [] [] p2) kNil)
  have hu' : X.A.units < cLine := Nat.lt_of_le_of_lt (Nat.le_add_right _ _) hu
  refine ⟨_, pt_cmpR ((op_eq_dict hu').or (op_eq_dictL hu')) pa pb (nomark _), fun H0 g S σ env hS hE Q h => ?_⟩
  refine ka H0 g S σ env hS hE _ (sat_mono (seqT h) (fun x S1 z g1 v e1 s1 r1 => ?_) fun _ _ q => q)
  obtain ⟨n, ob, kvs, rfl, h1, h2, z⟩ := onK_get (z g1 e1)
  refine kb H0 g1 S1 σ env s1 (hE.ext e1) _ ?_
  intro g2 q vs e2 s2 n0 q1 q2 q3 r2
  cases r2
  obtain ⟨A, ws, rfl, k1, k2, k3⟩ := s2.rawK h1 h2 (e2.rp r1)
  have z : okT m ca g1 Q kvs.isEmpty S1 := z
  cases k3 with
  | nil => exact .inl ⟨A, q, [], rfl, rfl, k2, q1, List.nodup_nil, (fun p hp => by cases hp), true, rfl, z g2 e2 s2⟩
  | cons hh tt => exact .inr ⟨A, q, _, [], rfl, rfl, k2, q1, (by simp), false, rfl, z g2 e2 s2⟩
theorem EnvOk.h0 {H0 H1 : Hp} {σ : L2.St} {env : En} (h : EnvOk H0 g σ env) (k : ∀ q o, g.H q = some o → H0 q = none → H1 q = none) : EnvOk H1 g σ env := by
  refine ⟨h.len, fun i v w h1 h2 => ?_, h.apart⟩
  have r := h.at_ i v w h1 h2
  cases w with
  | o xs =>
    obtain ⟨q, vs, r1, r2, r3, r4⟩ := r
    exact ⟨q, vs, r1, r2, r3, ⟨r4.out, r4.nop, k q _ r2 r4.new⟩⟩
  | k xs =>
    obtain ⟨q, vs, r1, r2, r3, r4⟩ := r
    exact ⟨q, vs, r1, r2, r3, ⟨r4.out, r4.nop, k q _ r2 r4.new⟩⟩
  | _ => exact r
/-- a statement over a dict that stays -/
def sLk (fo : En → M D) (fs : En → M Fl) : En → M Fl := eLk fo fun env => M.bind (fs env) fun fl => match fl with
  | .nx e => M.ret (.nx e)
  | .rt d => M.ret (.rt d)
  | _ => M.bad
theorem EnvOk.off {H0 : Hp} {σ : L2.St} {env : En} (h : EnvOk H0 g σ env) {l : Loc} {a : Addr} (ea : g.p l = some a) (u : HO) : EnvOk H0 ⟨g.F, upd g.H a u, g.p⟩ σ env := by
  refine ⟨h.len, fun i v w h1 h2 => ?_, h.apart⟩
  have r := h.at_ i v w h1 h2
  cases w with
  | o xs =>
    obtain ⟨q, vs, r1, r2, r3, r4⟩ := r
    exact ⟨q, vs, r1, by show upd g.H a u q = _; rw [upd_ne (fun c => by subst c; exact r4.nop _ ea)]; exact r2, r3, ⟨r4.out, r4.nop, r4.new⟩⟩
  | k xs =>
    obtain ⟨q, vs, r1, r2, r3, r4⟩ := r
    exact ⟨q, vs, r1, by show upd g.H a u q = _; rw [upd_ne (fun c => by subst c; exact r4.nop _ ea)]; exact r2, r3, ⟨r4.out, r4.nop, r4.new⟩⟩
  | _ => exact r
theorem ds_lock {st : Stmt} {fs : En → M Fl} (fo : En → M D) (hb : DS m X W ca st fs) : DS m X W ca st (sLk fo fs) := by
  obtain ⟨t, p, k⟩ := hb
  refine ⟨_, ps_lock p, fun g0 g S σ env e0 hS hE D h => ?_⟩
  obtain ⟨n, ob, kvs, fl, S2, ob2, kvs2, h1, h2, h3, h4, h5, h⟩ := lk_cases h
  obtain ⟨a, vs, ea, eH, k2⟩ := lk_in hS h1 h2
  refine ⟨a, _, eH, trivial, fun od => ?_⟩
  obtain ⟨s1, x1⟩ := k2 od
  obtain ⟨g1, hg1⟩ : ∃ g1 : G, g1 = ⟨g.F, upd g.H a (.frz od (.dK vs)), g.p⟩ := ⟨_, rfl⟩
  rw [← hg1] at s1 x1
  have dom1 : ∀ b, g1.H b = none → g.H b = none := fun b hb => by
    rw [hg1] at hb
    have hb : upd g.H a (.frz od (.dK vs)) b = none := hb
    by_cases c : b = a
    · subst c; rw [upd_same] at hb; cases hb
    · rw [upd_ne c] at hb; exact hb
  obtain ⟨gz, hgz⟩ : ∃ gz : G, gz = ⟨g1.F, fun b => if g0.H b = none then none else g1.H b, g1.p⟩ := ⟨_, rfl⟩
  have ez : Ext m gz g1 := by
    rw [hgz]
    have up : ∀ b o, (if g0.H b = none then none else g1.H b) = some o → g1.H b = some o := fun b o hb => by
      split at hb
      · cases hb
      · exact hb
    refine ⟨Same.refl _, fun b o hb hF hp => ⟨up b o hb, hF, hp⟩, PiLe.refl _, fun b hb => ?_, fun _ => ⟨rfl, fun l b o hl hb => up b o hb⟩, fun b x y hb => up b _ hb⟩
    show (if g0.H b = none then none else g1.H b) = none
    rw [hb]; split <;> rfl
  have back : ∀ q, gz.H q = none → g0.H q = none := fun q hq => by
    rw [hgz] at hq
    have hq : (if g0.H q = none then none else g1.H q) = none := hq
    by_cases c : g0.H q = none
    · exact c
    · rw [if_neg c] at hq
      exact e0.dom q (dom1 q hq)
  have hEz : EnvOk gz.H g1 σ env := (hE.ext x1).h0 fun q o hq h0 => by
    rw [hgz]
    show (if g0.H q = none then none else g1.H q) = none
    rw [if_pos h0]
  have kk := k gz g1 _ σ env ez s1 hEz
  rw [hg1] at kk
  refine kk _ ?_
  rw [← hg1]
  unfold M.bind at h3
  have fin : ∀ (g2 : G), Ext m gz g2 → Mo m g1 g2 → SOk ca g2 S2 → g2.H a = some (.frz od (.dK vs)) ∧ g2.p (.ob n) = some a ∧ SOk ca ⟨g2.F, upd g2.H a (.dK vs), g2.p⟩ (S2.set n (rK kvs2)) ∧ Mo m g ⟨g2.F, upd g2.H a (.dK vs), g2.p⟩ ∧ Ext m g0 ⟨g2.F, upd g2.H a (.dK vs), g2.p⟩ := fun g2 ex mo s2 => by
    have hH2 : g2.H a = some (.frz od (.dK vs)) := mo.frz a od _ (by rw [hg1]; exact upd_same)
    have gzF : gz.F = g.F := by rw [hgz, hg1]
    have gzp : gz.p = g.p := by rw [hgz, hg1]
    have sF : Same g.F g2.F := by have := ex.same; rw [gzF] at this; exact this
    have sp : PiLe g.p g2.p := by have := ex.obs; rw [gzp] at this; exact this
    have ea2 : g2.p (.ob n) = some a := sp.1 _ _ ea
    have ne1 : ∀ b o, b ≠ a → g.H b = some o → g1.H b = some o := fun b o hb h => by rw [hg1]; show upd g.H a _ b = _; rw [upd_ne hb]; exact h
    obtain ⟨a', vs', o', q1, q2, q3⟩ := s2.rawF' h4 h5
    rw [ea2] at q1
    cases q1
    rw [hH2] at q2
    cases q2
    have none3 : ∀ b, upd g2.H a (.dK vs) b = none → b ≠ a ∧ g2.H b = none := fun b hb => by
      by_cases c : b = a
      · subst c; rw [upd_same] at hb; cases hb
      · rw [upd_ne c] at hb; exact ⟨c, hb⟩
    have gzH : ∀ b o, g0.H b ≠ none → g1.H b = some o → gz.H b = some o := fun b o h0 h => by rw [hgz]; show (if g0.H b = none then none else g1.H b) = _; rw [if_neg h0]; exact h
    have nfz : ∀ b x y, g.H b = some (.frz x y) → b ≠ a := fun b x y hb c => by subst c; rw [eH] at hb; cases hb
    refine ⟨hH2, ea2, raw_putW s2 h4 (by rw [Ob.raw_get h5]) ea2 (fun x y q => by rw [hH2] at q; cases q) (.inr (.inl ⟨vs, kvs2, rfl, upd_same, q3⟩)), ⟨sF, sp, fun b hb => ?_, fun hm => ⟨?_, fun l b u hl hb => ?_⟩, fun b x y hb => ?_⟩, ⟨e0.same.trans sF, fun b u b1 b2 b3 => ?_, e0.obs.trans sp, fun b hb => ?_, fun hm => ?_, fun b x y hb => ?_⟩⟩
    · obtain ⟨c1, c2⟩ := none3 b hb
      exact dom1 b (mo.dom b c2)
    · rw [(mo.pure hm).1, hg1]
    · show upd g2.H a (.dK vs) b = _
      by_cases c : b = a
      · subst c; rw [upd_same, ← eH]; exact hb
      · rw [upd_ne c]
        exact (mo.pure hm).2 l b u (by rw [hg1]; exact hl) (ne1 b u c hb)
    · show upd g2.H a (.dK vs) b = _
      rw [upd_ne (nfz b x y hb)]
      exact mo.frz b x y (ne1 b _ (nfz b x y hb) hb)
    · obtain ⟨k1, k2, k3⟩ := e0.stay b u b1 b2 b3
      have ne : b ≠ a := fun c => by subst c; exact k3 _ ea
      obtain ⟨w1, w2, w3⟩ := ex.stay b u (gzH b u (by rw [b1]; simp) (ne1 b u ne k1)) (by rw [gzF]; exact k2) (by rw [gzp]; exact k3)
      exact ⟨by show upd g2.H a _ b = _; rw [upd_ne ne]; exact w1, w2, w3⟩
    · obtain ⟨c1, c2⟩ := none3 b hb
      exact back b (ex.dom b c2)
    · obtain ⟨r1, r2⟩ := e0.pure hm
      refine ⟨by show g2.p = g0.p; rw [(mo.pure hm).1, hg1]; exact r1, fun l b u hl hb => ?_⟩
      have gb := r2 l b u hl hb
      show upd g2.H a (.dK vs) b = _
      by_cases c : b = a
      · subst c; rw [upd_same, ← eH]; exact gb
      · rw [upd_ne c]
        exact (ex.pure hm).2 l b u (by rw [gzp, r1]; exact hl) (gzH b u (by rw [hb]; simp) (ne1 b u c gb))
    · have gb := e0.frz b x y hb
      show upd g2.H a (.dK vs) b = _
      rw [upd_ne (nfz b x y gb)]
      exact mo.frz b x y (ne1 b _ (nfz b x y gb) gb)
  cases e6 : fs env (S.set n (rF kvs)) with
  | bad => rw [e6] at h3; cases h3
  | exc c S3 => rw [e6] at h3; cases h3
  | ok f0 S3 =>
    rw [e6] at h3
    cases f0 with
    | nx env' =>
      cases h3
      intro g2 σ' x1 x2 s2 hE2
      obtain ⟨z1, za, z2, z3, z4⟩ := fin g2 x1 x2 s2
      refine ⟨z1, (show okS m ca W g0 g D (.nx env') (S2.set n (rK kvs2)) from h) _ σ' z4 z3 z2 ?_⟩
      exact (hE2.off za (.dK vs)).h0 fun q o _ hq => back q hq
    | rt d =>
      cases h3
      intro g2 v x1 x2 s2 r2
      obtain ⟨z1, za, z2, z3, z4⟩ := fin g2 x1 x2 s2
      exact ⟨z1, (show okS m ca W g0 g D (.rt d) (S2.set n (rK kvs2)) from h) _ v z4 z3 z2 r2⟩
    | _ => cases h3
end
end Dn

namespace Dn
open PySem L2 PyProof.Rows PySem.Spec
/-! ### a def that calls itself: nothing is promised where the fuel is out -/
theorem fn_bad {P : Program} {w : World} {K : PySem.W.Frag} {mg : Str → Option Value} {base : Heap} {k : Nat} {fa : Addr} {fd : FuncData} {ps : List Str} {m : Bool} {ca : Ct} : FnD P w K mg base k fa fd ps m ca (fun _ => M.bad) :=
  ⟨fun vs H Q E q => q.1, fun A outer s H args us vs Q E hr he hb hv hs => by
    obtain ⟨_, _, _, _, _, _, _, z⟩ := hs
    exact z.elim⟩
section
variable {m : Bool} {X : Cx} {W : WX} {ca : Ct} {a b e o : Expr} {fa fb fo : En → M D} {pos : Pos} {g : G} {S : Store}
/-- dict(d): a new dict with the same -/
def kCpy (fa : En → M D) : En → M (List (Key × D)) := fun env => M.bind (fa env) fun x => match x with
  | .dct kvs => M.ret kvs
  | _ => M.bad
theorem seqK' {α : Type} {c : M α} {k : α → M (List (Key × D))} {S : Store} {g : G} {σ : L2.St} {Q : VK} (h : (M.bind c k S).sat (okK m ca g Q) (exE m ca W g σ)) :
    (c S).sat (fun a S' => ∀ g', Ext m g g' → (k a S').sat (okK m ca g' Q) (exE m ca W g' σ)) (exE m ca W g σ) :=
  sat_mono (sat_bind h) (fun a S' h g' e => sat_mono h (fun d S2 q g2 l vs e2 s n h1 h2 h3 r => q g2 l vs (e.trans e2) s (e.dom _ n) h1 h2 h3 r) fun c S2 q => q.mono e) fun _ _ q => q
theorem dk_dictF {p : Pos} (ha : DB m X W ca a fa) (hg : Gl X "dict" := by rfl) (hm : X.mg "dict" = none := by assumption) (hs : starEach [a] X.env = (false, eval a X.env) :: starEach [] X.env := by rfl) : DK m X W ca (.Call (.Name "dict" p) [a] [] pos) (kCpy fa) := by
  obtain ⟨t, pa, k⟩ := ha
  refine ⟨_, pe_callTy call_dictD hg hm (by decide +kernel) (pa_cons pa pa_nil hs) (he := hs), fun H0 g S σ env hS hE Q h => ?_⟩
  refine k H0 g S σ env hS hE _ (sat_mono (seqK' h) (fun x S1 q g1 v e1 s1 r1 => ?_) fun _ _ q => q)
  have q := q g1 e1
  cases x with
  | dct xs =>
    obtain ⟨l, vs, rfl, h1, h2⟩ := r1.dct s1
    exact ⟨l, vs, rfl, .inl h1, fun z hz => (show okK m ca g1 Q xs S1 from q) (g1.nw z _) z _ (ext_nw s1 hz _) (sok_nw s1 hz _) hz upd_same (s1.free hz) (s1.nop hz) h2⟩
  | _ => exact q.elim
/-- list(d): a dict's keys -/
def oKeysF (fa : En → M D) : En → M (List D) := fun env => M.bind (fa env) fun x => match x with
  | .dct kvs => M.ret (kvs.map fun kv => keyV kv.1)
  | _ => M.bad
theorem rpA_kys : ∀ {F : Hp} {p : Pi} {vs : List (Key × V)} {xs : List (Key × D)}, RpK F p vs xs → RpA F p (vs.map fun kv => kV kv.1) (xs.map fun kv => keyV kv.1)
  | _, _, _, _, .nil => .nil
  | _, _, _, _, .cons (k := k) h t => by
    refine .cons ?_ (rpA_kys t)
    cases k with
    | inl i => exact .int i
    | inr s => exact .str s
theorem do_keysF {p : Pos} (ha : DB m X W ca a fa) (hc : X.calm = true := by rfl) (hg : Gl X "list" := by rfl) (hm : X.mg "list" = none := by assumption) (hs : starEach [a] X.env = (false, eval a X.env) :: starEach [] X.env := by rfl) : DO m X W ca (.Call (.Name "list" p) [a] [] pos) (oKeysF fa) := by
  obtain ⟨t, pa, k⟩ := ha
  refine ⟨_, pe_callTy (call_listD hc) hg hm (by decide +kernel) (pa_cons pa pa_nil hs) (he := hs), fun H0 g S σ env hS hE Q h => ?_⟩
  refine k H0 g S σ env hS hE _ (sat_mono (seqO h) (fun x S1 q g1 v e1 s1 r1 => ?_) fun _ _ q => q)
  have q := q g1 e1
  cases x with
  | dct xs =>
    obtain ⟨l, vs, rfl, h1, h2⟩ := r1.dct s1
    exact ⟨l, vs, rfl, .inl h1, fun z hz => (show okO m ca g1 Q (xs.map fun kv => keyV kv.1) S1 from q) (g1.nw z _) z _ (ext_nw s1 hz _) (sok_nw s1 hz _) hz upd_same (s1.free hz) (s1.nop hz) (rpA_kys h2)⟩
  | _ => exact q.elim
/-- dict(d), d in the store -/
def kCpyK (fa : En → M D) : En → M (List (Key × D)) := fun env => M.bind (fa env) fun x => onK x fun _ kvs => M.ret kvs
theorem dk_dictK {p : Pos} (ha : DE m X W ca a fa) (hg : Gl X "dict" := by rfl) (hm : X.mg "dict" = none := by assumption) (hs : starEach [a] X.env = (false, eval a X.env) :: starEach [] X.env := by rfl) : DK m X W ca (.Call (.Name "dict" p) [a] [] pos) (kCpyK fa) := by
  obtain ⟨t, pa, k⟩ := ha
  refine ⟨_, pe_callTy call_dictD hg hm (by decide +kernel) (pa_cons pa pa_nil hs) (he := hs), fun H0 g S σ env hS hE Q h => ?_⟩
  refine k H0 g S σ env hS hE _ (sat_mono (seqK' h) (fun x S1 q g1 v e1 s1 r1 => ?_) fun _ _ q => q)
  obtain ⟨n, ob, kvs, rfl, h1, h2, q⟩ := onK_get (q g1 e1)
  obtain ⟨l, vs, rfl, k1, k2, k3⟩ := s1.rawK h1 h2 r1
  exact ⟨l, vs, rfl, .inl k2, fun z hz => (show okK m ca g1 Q kvs S1 from q) (g1.nw z _) z _ (ext_nw s1 hz _) (sok_nw s1 hz _) hz upd_same (s1.free hz) (s1.nop hz) k3⟩
/-- two dicts of the store compared: of unlike length, or alike all through -/
def sameD : D → D → Bool
  | .int i, .int j => decide (i = j)
  | .str i, .str j => decide (i = j)
  | _, _ => false
def sameK (kvs ls : List (Key × D)) : Bool := kvs.all fun kv => match getK ls kv.1 with
  | some d => sameD kv.2 d
  | none => false
def eqKK (kvs ls : List (Key × D)) : Option Bool := if kvs.length = ls.length then (if sameK kvs ls = true then some true else none) else some false
theorem sameD_v {F : Hp} {p : Pi} {v w : V} {a b : D} (h : sameD a b = true) (r : Rp F p v a) (q : Rp F p w b) : w = v ∧ flatB v = true := by
  unfold sameD at h
  split at h
  · cases of_decide_eq_true h; cases r; cases q; exact ⟨rfl, rfl⟩
  · cases of_decide_eq_true h; cases r; cases q; exact ⟨rfl, rfl⟩
  · cases h
theorem rpK_len : ∀ {F : Hp} {p : Pi} {vs : List (Key × V)} {xs : List (Key × D)}, RpK F p vs xs → vs.length = xs.length
  | _, _, _, _, .nil => rfl
  | _, _, _, _, .cons _ t => by simp [rpK_len t]
theorem rpK_mem : ∀ {F : Hp} {p : Pi} {vs : List (Key × V)} {xs : List (Key × D)}, RpK F p vs xs → ∀ kv ∈ vs, ∃ d, (kv.1, d) ∈ xs ∧ Rp F p kv.2 d
  | _, _, _, _, .nil, kv, h => by cases h
  | _, _, _, _, .cons h t, kv, hm => by
    rcases List.mem_cons.mp hm with rfl | hm
    · exact ⟨_, List.mem_cons_self, h⟩
    · obtain ⟨d, h1, h2⟩ := rpK_mem t kv hm
      exact ⟨d, List.mem_cons_of_mem _ h1, h2⟩
theorem eqKK_run (hS : SOk ca g S) {n1 n2 : Nat} {ob1 ob2 : Ob} {kvs ls : List (Key × D)} {v w : V} (e1 : S[n1]? = some ob1) (r1 : ob1.raw = some (.k kvs)) (e2 : S[n2]? = some ob2) (r2 : ob2.raw = some (.k ls)) (q1 : Rp g.F g.p v (.obj n1)) (q2 : Rp g.F g.p w (.obj n2)) {b : Bool} (h : eqKK kvs ls = some b) (Q : VK) (k : Q (.bl b) g.H) :
    rEqDA v w g.H Q ∨ rEqDL v w g.H Q := by
  obtain ⟨A, vs, rfl, a1, a2, a3⟩ := hS.rawK e1 r1 q1
  obtain ⟨B, ws, rfl, b1, b2, b3⟩ := hS.rawK e2 r2 q2
  unfold eqKK at h
  by_cases c : kvs.length = ls.length
  · rw [if_pos c] at h
    by_cases c2 : sameK kvs ls = true
    · rw [if_pos c2] at h
      cases h
      refine .inl ⟨A, B, vs, ws, rfl, rfl, a2, b2, by rw [rpK_len a3, rpK_len b3, c], fun p hp => ?_, k⟩
      obtain ⟨d, h1, h2⟩ := rpK_mem a3 p hp
      have c2 := List.all_eq_true.mp c2 _ h1
      dsimp only at c2
      rcases getK_v b3 p.1 with ⟨g1, _⟩ | ⟨d', v', g1, g2, g3⟩
      · rw [g1] at c2; cases c2
      · rw [g1] at c2
        obtain ⟨z1, z2⟩ := sameD_v c2 h2 g3
        exact ⟨by rw [g2, z1], z2⟩
    · rw [if_neg c2] at h; cases h
  · rw [if_neg c] at h
    cases h
    exact .inr ⟨A, B, vs, ws, rfl, rfl, a2, b2, by rw [rpK_len a3, rpK_len b3]; exact c, k⟩
def eEqKK (fa fb : En → M D) : En → M D := fun env => M.bind (fa env) fun x => M.bind (fb env) fun y => onK x fun _ kvs => onK y fun _ ls => M.lift ((eqKK kvs ls).map D.bl)
theorem de_eqKK (hu : X.A.units + 64 < cLine) (ha : DE m X W ca a fa) (hb : DE m X W ca b fb) : DE m X W ca (.Compare a [.Eq] [b] pos) (eEqKK fa fb) := by
  obtain ⟨ta, pa, ka⟩ := ha
  obtain ⟨tb, pb, kb⟩ := hb
  have hu' : X.A.units < cLine := Nat.lt_of_le_of_lt (Nat.le_add_right _ _) hu
  refine ⟨_, pe_cmpR ((op_eq_dictA hu').or (op_eq_dictL hu')) pa pb (nomark _), fun H0 g S σ env hS hE Q h => ?_⟩
  refine ka H0 g S σ env hS hE _ (sat_mono (seqE h) (fun x S1 z g1 v e1 s1 r1 => ?_) fun _ _ q => q)
  refine kb H0 g1 S1 σ env s1 (hE.ext e1) _ (sat_mono (seqE (z g1 e1)) (fun y S2 z2 g2 w e2 s2 r2 => ?_) fun _ _ q => q)
  obtain ⟨n1, ob1, kvs, rfl, h1, h2, z3⟩ := onK_get (z2 g2 e2)
  obtain ⟨n2, ob2, ls, rfl, h3, h4, z4⟩ := onK_get z3
  obtain ⟨d, hd, z5⟩ := sat_lift z4
  cases e : eqKK kvs ls with
  | none => rw [e] at hd; cases hd
  | some b =>
    rw [e] at hd
    cases hd
    exact eqKK_run s2 h1 h2 h3 h4 (e2.rp r1) r2 e _ ((show okE m ca g2 Q (.bl b) S2 from z5) g2 _ (Ext.refl _) s2 (.bl b))
end
end Dn

namespace Dn
open PySem L2 PyProof.Rows PySem.Spec
/-! ### list(d.values()) -/
def vwO (p d : Addr) : HO := .ext fun h => h.get? p = some { cls := .type "dict_values", data := .fields #[.ref d] }
theorem vwO_ok {P : Program} {w : World} {H : Hp} {h : Heap} {p d : Addr} (e : h.get? p = some { cls := .type "dict_values", data := .fields #[.ref d] }) : ObjOk P w H h p (vwO p d) := ⟨e, ⟨_, e⟩, fun h1 h2 q k => k _ q⟩
def tVals (t : TE) : TE := fun σ H Q => t σ H fun x H1 => ∃ d kvs, x = .ref d ∧ Rd H1 d (.dK kvs) ∧ ∀ p, H1 p = none → Q (.ref p) (upd H1 p (vwO p d))
section
variable {X : Cx} {tg e : Expr} {td : TE} {apos cpos : Pos}
theorem pe_vals (he : PE X e td) (hbase : attributeBase e "values" X.env (eval e X.env) = eval e X.env := by rfl) (hline : (apos.endLine == cpos.line) = true := by rfl) : PE X (.Call (.Attribute e "values" apos) [] [] cpos) (tVals td) := by
  refine ⟨fun pins s σ H Q I h => ?_⟩
  refine wpAny_Call_method (T := "dict") (id := "dict.values") hbase rfl hline F.plainAttrs_dict F.slot_dict_values F.type_dict_values (thn (he.run pins s σ H _ I h) fun u s1 ⟨x, H1, I1, rx, d, kvs, ex, hd, q⟩ => ?_)
  subst ex
  obtain rfl : u = Value.ref d := rx
  obtain ⟨z, lo, vs, rel, dd⟩ := dk_rd I1.hok hd
  obtain ⟨ep, hm⟩ := dd.dictAt
  refine ⟨hm.dictOf.typeIs, hm.dictOf.mapOf.noDict, ?_⟩
  show wpAny _ _ (callWith cpos (.builtin "dict.values") [.ref d] [] []) _ X.xe s1
  refine method_meetsIn F.slot_dict_values F.entry_dict_values rfl (PySem.evalArgs_none ⟨rfl, hm.dictOf.typeIs, F.args_dict_values_1 _, _, meets_dict_values (mixKind X.prog X.w) d lo, ⟨vs, hm.dictOf⟩, ?_⟩)
  exact ⟨.ref s1.heap.objs.size, _, I1.laid (t' := s1.toks) (fun b o q => Heap.get?_push_of_some _ q) (Nat.le_refl _) (vwO_ok (Heap.get?_push_size _ rfl)), rfl, q _ (I1.hok.fresh (Nat.le_refl _))⟩
theorem vals_snd {kvs : List (Key × V)} {vs : List (Key × Value)} (h : KV kvs vs) : Vals (kvs.map (·.2)) (vs.map (·.2)) := by
  induction h with
  | nil => exact .nil
  | cons a _ ih => exact .cons a.2 ih
theorem call_listV (hcalm : X.calm = true) : CallR X (.type "list") (fun xs H Q => ∃ (p d : Addr) (kvs : List (Key × V)), xs = [.ref p] ∧ H p = some (vwO p d) ∧ Rd H d (.dK kvs) ∧ ∀ q, H q = none → Q (.ref q) (upd H q (.lst (kvs.map (·.2))))) := by
  intro pins s σ H xs us Q I r q
  obtain ⟨p, a, kvs, ex, hp, hd, q⟩ := q
  subst ex
  obtain ⟨u, eu, rx⟩ := vals1 r
  subst eu
  cases rx
  obtain ⟨z, lo, vs, rel, dd⟩ := dk_rd I.hok hd
  obtain ⟨ep, hat⟩ := dd.dictAt
  have hv : s.heap.get? p = some { cls := .type "dict_values", data := .fields #[.ref a] } := (show ObjOk X.prog X.w H s.heap p (vwO p a) from I.hok p _ hp).1
  refine PySem.W.kdl_call (PySem.W.kdl_values (knd := mixKind X.prog X.w) (kvs := vs) (ep := ep) (d := a) (r := p)) (I.ok.hd hcalm) ⟨⟨_, hv, rfl, rfl⟩, hat⟩ (by rw [← rel.length]; exact z) fun h' tk acc c' hk hD hacc => ?_
  have ha : acc.toList = vs.map (·.2) := PySem.W.kdl_vals_eq acc.toList (by rw [Array.length_toList]; exact hacc.1) fun j v e => hacc.2 j v (by rw [← Array.getElem?_toList]; exact e)
  have hv : Vals (kvs.map (·.2)) acc.toList := by rw [ha]; exact vals_snd rel
  refine ⟨.ref s.heap.objs.size, upd H s.heap.objs.size (.lst (kvs.map (·.2))), I.laid (t' := tk) hk (Nat.le_refl _)
    (show ObjOk X.prog X.w _ _ _ (.lst (kvs.map (·.2))) from ⟨by rw [List.length_map]; exact z, acc.toList, c', hv, by rw [Array.toArray_toList]; exact hD⟩), rfl, q _ (I.hok.fresh (Nat.le_refl _))⟩
end
theorem rpA_snd : ∀ {F : Hp} {p : Pi} {vs : List (Key × V)} {xs : List (Key × D)}, RpK F p vs xs → RpA F p (vs.map (·.2)) (xs.map (·.2))
  | _, _, _, _, .nil => .nil
  | _, _, _, _, .cons h t => .cons h (rpA_snd t)
section
variable {m : Bool} {X : Cx} {W : WX} {ca : Ct} {a b e o : Expr} {fa fb fo : En → M D} {pos apos p : Pos} {g : G} {S : Store}
/-- list(d.values()), d in the store -/
def oValsK (fa : En → M D) : En → M (List D) := fun env => M.bind (fa env) fun x => onK x fun _ kvs => M.ret (kvs.map (·.2))
theorem do_valsK {cpos : Pos} (ha : DE m X W ca a fa) (hc : X.calm = true := by rfl) (hg : Gl X "list" := by rfl) (hm : X.mg "list" = none := by assumption) (hbase : attributeBase a "values" X.env (eval a X.env) = eval a X.env := by rfl) (hline : (apos.endLine == cpos.line) = true := by rfl)
    (hs : starEach [(.Call (.Attribute a "values" apos) [] [] cpos)] X.env = (false, eval (.Call (.Attribute a "values" apos) [] [] cpos) X.env) :: starEach [] X.env := by rfl) : DO m X W ca (.Call (.Name "list" p) [.Call (.Attribute a "values" apos) [] [] cpos] [] pos) (oValsK fa) := by
  obtain ⟨t, pa, k⟩ := ha
  refine ⟨_, pe_callTy (call_listV hc) hg hm (by decide +kernel) (pa_cons (pe_vals pa hbase hline) pa_nil hs) (he := hs), fun H0 g S σ env hS hE Q h => ?_⟩
  refine k H0 g S σ env hS hE _ (sat_mono (seqO h) (fun x S1 q g1 v e1 s1 r1 => ?_) fun _ _ q => q)
  obtain ⟨n, ob, kvs, rfl, h1, h2, q⟩ := onK_get (q g1 e1)
  obtain ⟨l, vs, rfl, k1, k2, k3⟩ := s1.rawK h1 h2 r1
  refine ⟨l, vs, rfl, .inl k2, fun z0 hz0 => ?_⟩
  have nz : l ≠ z0 := fun e => by rw [e, hz0] at k2; cases k2
  refine ⟨z0, l, vs, rfl, upd_same, .inl (by rw [upd_ne nz]; exact k2), fun z hz => ?_⟩
  have n2 : z ≠ z0 := fun e => by rw [e, upd_same] at hz; cases hz
  have s2 := sok_nw s1 hz0 (vwO z0 l)
  have e2 := ext_nw (m := m) s1 hz0 (vwO z0 l)
  exact (show okO m ca g1 Q (kvs.map (·.2)) S1 from q) ((g1.nw z0 _).nw z _) z _ (e2.trans (ext_nw s2 hz _)) (sok_nw s2 hz _) (by rw [upd_ne n2] at hz; exact hz) upd_same (s2.free hz) (s2.nop hz) (rpA_snd k3)
end
end Dn

namespace Dn
open PySem L2 PyProof.Rows PySem.Spec
/-! ### an item of a dict of the store, where more may be written -/
section
variable {m : Bool} {X : Cx} {W : WX} {ca : Ct} {a b e o : Expr} {fa fb fo : En → M D} {pos : Pos} {g : G} {S : Store}
def eIxK (fo fi : En → M D) : En → M D := fun env => M.bind (fo env) fun x => M.bind (fi env) fun y => onK x fun _ kvs => M.lift ((keyD y).bind (getK kvs))
theorem de_ixK (hu : X.A.units + 64 < cLine) (ha : DE m X W ca a fa) (hb : DE m X W ca b fb) (hs : NoSl b := by intro _ _; rfl) : DE m X W ca (.Subscript a b pos) (eIxK fa fb) := by
  obtain ⟨ta, pa, ka⟩ := ha
  obtain ⟨tb, pb, kb⟩ := hb
  refine ⟨_, pe_dget (Nat.lt_of_le_of_lt (Nat.add_le_add_left (by decide : 1 ≤ 64) _) hu) pa pb hs, fun H0 g S σ env hS hE Q h => ?_⟩
  refine ka H0 g S σ env hS hE _ (sat_mono (seqE h) (fun x S1 z g1 v e1 s1 r1 => ?_) fun _ _ q => q)
  refine kb H0 g1 S1 σ env s1 (hE.ext e1) _ (sat_mono (seqE (z g1 e1)) (fun y S2 z2 g2 w e2 s2 r2 => ?_) fun _ _ q => q)
  obtain ⟨n, ob, kvs, rfl, h1, h2, z3⟩ := onK_get (z2 g2 e2)
  obtain ⟨c, vs, rfl, k1, k2, k3⟩ := s2.rawK h1 h2 (e2.rp r1)
  obtain ⟨d, hd, z3⟩ := sat_lift z3
  cases e1 : keyD y with
  | none => rw [e1] at hd; cases hd
  | some q =>
    rw [e1] at hd
    have hd : getK kvs q = some d := hd
    rcases getK_v k3 q with ⟨g1', _⟩ | ⟨d', v', g1', g2', g3'⟩
    · rw [g1'] at hd; cases hd
    · rw [g1'] at hd; cases hd
      exact ⟨_, v', rfl, .inl ⟨vs, q, .inl k2, keyD_v (Rp.mono s2.same (PiLe.refl _) r2) e1, g2'.symm⟩, (show okE m ca g2 Q _ S2 from z3) g2 v' (Ext.refl _) s2 g3'⟩
end
end Dn

namespace Dn
open PySem L2 PyProof.Rows PySem.Spec
/-! ### dicts of the store: unlike? -/
def rNeDL : R2 := fun x y H Q => ∃ a b ks ls, x = .ref a ∧ y = .ref b ∧ H a = some (.dK ks) ∧ H b = some (.dK ls) ∧ ks.length ≠ ls.length ∧ Q (.bl true) H
theorem op_ne_dictL {X : Cx} (hu : X.A.units < cLine) : OpR X (compareOp .NotEq) rNeDL := by
  intro pins s σ H x y v u Q I rx ry h
  obtain ⟨a, b, ks, ls, rfl, rfl, ea, eb, hlen, q⟩ := h
  obtain rfl : v = Value.ref a := rx
  obtain rfl : u = Value.ref b := ry
  obtain ⟨_, ya, va, ra, da⟩ := (show ObjOk X.prog X.w H s.heap a (.dK ks) from I.hok a _ ea)
  obtain ⟨_, yb, vb, rb, db⟩ := (show ObjOk X.prog X.w H s.heap b (.dK ls) from I.hok b _ eb)
  have hl : va.length ≠ vb.length := by rw [← ra.length, ← rb.length]; exact hlen
  exact PySem.W.keq_ne (knd := mixKind X.prog X.w) (r := true) ya yb da db hu (fun z => absurd z hl) (fin_bl I q (by simp [hl]))
section
variable {m : Bool} {X : Cx} {W : WX} {ca : Ct} {a b e o : Expr} {fa fb fo : En → M D} {pos : Pos} {g : G} {S : Store}
theorem neKK_run (hS : SOk ca g S) {n1 n2 : Nat} {ob1 ob2 : Ob} {kvs ls : List (Key × D)} {v w : V} (e1 : S[n1]? = some ob1) (r1 : ob1.raw = some (.k kvs)) (e2 : S[n2]? = some ob2) (r2 : ob2.raw = some (.k ls)) (q1 : Rp g.F g.p v (.obj n1)) (q2 : Rp g.F g.p w (.obj n2)) {b : Bool} (h : eqKK kvs ls = some b) (Q : VK) (k : Q (.bl (!b)) g.H) :
    rNeDA v w g.H Q ∨ rNeDL v w g.H Q := by
  obtain ⟨A, vs, rfl, a1, a2, a3⟩ := hS.rawK e1 r1 q1
  obtain ⟨B, ws, rfl, b1, b2, b3⟩ := hS.rawK e2 r2 q2
  unfold eqKK at h
  by_cases c : kvs.length = ls.length
  · rw [if_pos c] at h
    by_cases c2 : sameK kvs ls = true
    · rw [if_pos c2] at h
      cases h
      refine .inl ⟨A, B, vs, ws, rfl, rfl, a2, b2, by rw [rpK_len a3, rpK_len b3, c], fun p hp => ?_, k⟩
      obtain ⟨d, h1, h2⟩ := rpK_mem a3 p hp
      have c2 := List.all_eq_true.mp c2 _ h1
      dsimp only at c2
      rcases getK_v b3 p.1 with ⟨g1, _⟩ | ⟨d', v', g1, g2, g3⟩
      · rw [g1] at c2; cases c2
      · rw [g1] at c2
        obtain ⟨z1, z2⟩ := sameD_v c2 h2 g3
        exact ⟨by rw [g2, z1], z2⟩
    · rw [if_neg c2] at h; cases h
  · rw [if_neg c] at h
    cases h
    exact .inr ⟨A, B, vs, ws, rfl, rfl, a2, b2, by rw [rpK_len a3, rpK_len b3]; exact c, k⟩
def eNeKK (fa fb : En → M D) : En → M D := fun env => M.bind (fa env) fun x => M.bind (fb env) fun y => onK x fun _ kvs => onK y fun _ ls => M.lift ((eqKK kvs ls).map fun b => D.bl (!b))
theorem de_neKK (hu : X.A.units + 64 < cLine) (ha : DE m X W ca a fa) (hb : DE m X W ca b fb) : DE m X W ca (.Compare a [.NotEq] [b] pos) (eNeKK fa fb) := by
  obtain ⟨ta, pa, ka⟩ := ha
  obtain ⟨tb, pb, kb⟩ := hb
  have hu' : X.A.units < cLine := Nat.lt_of_le_of_lt (Nat.le_add_right _ _) hu
  refine ⟨_, pe_cmpR ((op_ne_dictA hu').or (op_ne_dictL hu')) pa pb (nomark _), fun H0 g S σ env hS hE Q h => ?_⟩
  refine ka H0 g S σ env hS hE _ (sat_mono (seqE h) (fun x S1 z g1 v e1 s1 r1 => ?_) fun _ _ q => q)
  refine kb H0 g1 S1 σ env s1 (hE.ext e1) _ (sat_mono (seqE (z g1 e1)) (fun y S2 z2 g2 w e2 s2 r2 => ?_) fun _ _ q => q)
  obtain ⟨n1, ob1, kvs, rfl, h1, h2, z3⟩ := onK_get (z2 g2 e2)
  obtain ⟨n2, ob2, ls, rfl, h3, h4, z4⟩ := onK_get z3
  obtain ⟨d, hd, z5⟩ := sat_lift z4
  cases e : eqKK kvs ls with
  | none => rw [e] at hd; cases hd
  | some b =>
    rw [e] at hd
    cases hd
    exact neKK_run s2 h1 h2 h3 h4 (e2.rp r1) r2 e _ ((show okE m ca g2 Q (.bl !b) S2 from z5) g2 _ (Ext.refl _) s2 (.bl _))
/-- .. as tests -/
def tEqKK (fa fb : En → M D) : En → M Bool := fun env => M.bind (fa env) fun x => M.bind (fb env) fun y => onK x fun _ kvs => onK y fun _ ls => M.lift (eqKK kvs ls)
def tNeKK (fa fb : En → M D) : En → M Bool := fun env => M.bind (fa env) fun x => M.bind (fb env) fun y => onK x fun _ kvs => onK y fun _ ls => M.lift ((eqKK kvs ls).map fun b => !b)
theorem dt_eqKK (hu : X.A.units + 64 < cLine) (ha : DE m X W ca a fa) (hb : DE m X W ca b fb) : DT m X W ca (.Compare a [.Eq] [b] pos) (tEqKK fa fb) := by
  obtain ⟨ta, pa, ka⟩ := ha
  obtain ⟨tb, pb, kb⟩ := hb
  have hu' : X.A.units < cLine := Nat.lt_of_le_of_lt (Nat.le_add_right _ _) hu
  refine ⟨_, pt_cmpR ((op_eq_dictA hu').or (op_eq_dictL hu')) pa pb (nomark _), fun H0 g S σ env hS hE Q h => ?_⟩
  refine ka H0 g S σ env hS hE _ (sat_mono (seqT h) (fun x S1 z g1 v e1 s1 r1 => ?_) fun _ _ q => q)
  refine kb H0 g1 S1 σ env s1 (hE.ext e1) _ (sat_mono (seqT (z g1 e1)) (fun y S2 z2 g2 w e2 s2 r2 => ?_) fun _ _ q => q)
  obtain ⟨n1, ob1, kvs, rfl, h1, h2, z3⟩ := onK_get (z2 g2 e2)
  obtain ⟨n2, ob2, ls, rfl, h3, h4, z4⟩ := onK_get z3
  obtain ⟨d, hd, z5⟩ := sat_lift z4
  exact eqKK_run s2 h1 h2 h3 h4 (e2.rp r1) r2 hd _ ⟨d, rfl, (show okT m ca g2 Q d S2 from z5) g2 (Ext.refl _) s2⟩
theorem dt_neKK (hu : X.A.units + 64 < cLine) (ha : DE m X W ca a fa) (hb : DE m X W ca b fb) : DT m X W ca (.Compare a [.NotEq] [b] pos) (tNeKK fa fb) := by
  obtain ⟨ta, pa, ka⟩ := ha
  obtain ⟨tb, pb, kb⟩ := hb
  have hu' : X.A.units < cLine := Nat.lt_of_le_of_lt (Nat.le_add_right _ _) hu
  refine ⟨_, pt_cmpR ((op_ne_dictA hu').or (op_ne_dictL hu')) pa pb (nomark _), fun H0 g S σ env hS hE Q h => ?_⟩
  refine ka H0 g S σ env hS hE _ (sat_mono (seqT h) (fun x S1 z g1 v e1 s1 r1 => ?_) fun _ _ q => q)
  refine kb H0 g1 S1 σ env s1 (hE.ext e1) _ (sat_mono (seqT (z g1 e1)) (fun y S2 z2 g2 w e2 s2 r2 => ?_) fun _ _ q => q)
  obtain ⟨n1, ob1, kvs, rfl, h1, h2, z3⟩ := onK_get (z2 g2 e2)
  obtain ⟨n2, ob2, ls, rfl, h3, h4, z4⟩ := onK_get z3
  obtain ⟨d, hd, z5⟩ := sat_lift z4
  cases e : eqKK kvs ls with
  | none => rw [e] at hd; cases hd
  | some b =>
    rw [e] at hd
    cases hd
    exact neKK_run s2 h1 h2 h3 h4 (e2.rp r1) r2 e _ ⟨_, rfl, (show okT m ca g2 Q (!b) S2 from z5) g2 (Ext.refl _) s2⟩
end
end Dn

namespace Dn
open PySem L2 PyProof.Rows PySem.Spec
/-! ### dict(pairs) -/
def prK : D → Option (Key × D)
  | .tup [k, v] => (keyD k).map fun q => (q, v)
  | _ => none
def prsK : List D → Option (List (Key × D))
  | [] => some []
  | d :: ds => (prK d).bind fun q => (prsK ds).map fun qs => q :: qs
def kPairs (fa : En → M D) : En → M (List (Key × D)) := fun env => M.bind (fa env) fun x => match x with
  | .lst ds => M.bind (M.lift (prsK ds)) fun kvs => M.ret (mergeD [] kvs)
  | _ => M.bad
section
variable {m : Bool} {X : Cx} {W : WX} {ca : Ct} {a b e o : Expr} {fa fb fo : En → M D} {pos : Pos} {g : G} {S : Store}
theorem prs_of (hS : SOk ca g S) : ∀ {vs : List V} {ds : List D} {kvs : List (Key × D)}, RpA g.F g.p vs ds → prsK ds = some kvs → ∃ (ps : List Addr) (ws : List (Key × V)), vs = ps.map V.ref ∧ Paired (fun p kv => SqT X.K g.H p [kV kv.1, kv.2]) ps ws ∧ RpK g.F g.p ws kvs
  | _, _, kvs, .nil, h => by cases h; exact ⟨[], [], rfl, .nil, .nil⟩
  | _, _, kvs, .cons (v := v) (d := d) hv t, h => by
    unfold prsK at h
    cases e : prK d with
    | none => rw [e] at h; cases h
    | some q =>
      rw [e] at h
      cases e2 : prsK _ with
      | none => rw [e2] at h; cases h
      | some qs =>
        rw [e2] at h
        cases h
        obtain ⟨ps, ws, r1, r2, r3⟩ := prs_of hS t e2
        unfold prK at e
        split at e
        · rename_i k w
          cases e3 : keyD k with
          | none => rw [e3] at e; cases e
          | some kk =>
            rw [e3] at e
            cases e
            cases hv with
            | tup hf hh =>
              cases hh with
              | cons hk hh =>
                cases hh with
                | cons hw hn =>
                  cases hn
                  refine ⟨_ :: ps, (kk, _) :: ws, by rw [r1]; rfl, .cons ?_ r2, .cons hw r3⟩
                  have hv := keyD_v hk e3
                  rw [← hv]
                  exact SqT.of (hS.same _ _ hf)
        · cases e
theorem dk_pairs {p : Pos} (ha : DB m X W ca a fa) (hc : X.calm = true := by rfl) (hg : Gl X "dict" := by rfl) (hm : X.mg "dict" = none := by assumption) (hs : starEach [a] X.env = (false, eval a X.env) :: starEach [] X.env := by rfl) : DK m X W ca (.Call (.Name "dict" p) [a] [] pos) (kPairs fa) := by
  obtain ⟨t, pa, k⟩ := ha
  refine ⟨_, pe_callTy (call_dictP hc) hg hm (by decide +kernel) (pa_cons pa pa_nil hs) (he := hs), fun H0 g S σ env hS hE Q h => ?_⟩
  refine k H0 g S σ env hS hE _ (sat_mono (seqK' h) (fun x S1 q g1 v e1 s1 r1 => ?_) fun _ _ q => q)
  have q := q g1 e1
  cases x with
  | lst xs =>
    obtain ⟨l, vs, rfl, h1, h2⟩ := r1.lst s1
    obtain ⟨kvs, hk, q⟩ := sat_lift (sat_bind q)
    obtain ⟨ps, ws, rfl, k2, k3⟩ := prs_of (X := X) s1 h2 hk
    exact ⟨l, ps, ws, rfl, SqL.of h1, k2, fun z hz => (show okK m ca g1 Q (mergeD [] kvs) S1 from q) (g1.nw z _) z _ (ext_nw s1 hz _) (sok_nw s1 hz _) hz upd_same (s1.free hz) (s1.nop hz) (RpK.merge k3 .nil)⟩
  | _ => exact q.elim
end
end Dn

/-! ### len(set(texts)): how many unlike ones -/
namespace Tst
open PySem PySem.Spec PyProof.Rows
def seen (xs : List Str) (i : Nat) (k : Str) : Bool := (xs.take i).any (· == k)
def unlike (xs : List Str) : Nat → Nat
  | 0 => 0
  | i + 1 => if seen xs i (xs.getD i Str.empty) = true then unlike xs i else unlike xs i + 1
theorem unlike_le (xs : List Str) : ∀ i, unlike xs i ≤ i
  | 0 => Nat.le_refl _
  | i + 1 => by have := unlike_le xs i; unfold unlike; split <;> omega
theorem seen_next {xs : List Str} {i : Nat} (h : i < xs.length) (k : Str) : seen xs (i + 1) k = (seen xs i k || decide (k = xs.getD i Str.empty)) := by
  have e : xs.getD i Str.empty = xs[i] := by rw [List.getD_eq_getElem?_getD, List.getElem?_eq_getElem h]; rfl
  unfold seen
  rw [List.take_add_one, List.getElem?_eq_getElem h, e]
  show (xs.take i ++ [xs[i]]).any _ = _
  rw [List.any_append, List.any_cons, List.any_nil, Bool.or_false]
  congr 1
  rw [Bool.eq_iff_iff, beq_iff_eq, decide_eq_true_eq]
  exact ⟨Eq.symm, Eq.symm⟩
section
variable {prog : Program} {w : World} {A : Around} {R : Result → Shared → Prop} {I : Addr} {fp wr : List Addr} {G : Array GenState → Array GenState → Prop} {n : Nat} {P : Nat → Value → Prop} {St : Nat → Shared → Prop} {xs : List Str} {S : Addr}
abbrev Has (prog : Program) (w : World) (xs : List Str) (S : Addr) (i : Nat) (h : Heap) : Prop := h.SetOf (PySem.strKind prog w) S (seen xs i) (unlike xs i)
theorem Has.go {i : Nat} {h h' : Heap} (q : Has prog w xs S i h) (k : ∀ ob, h.get? S = some ob → h'.get? S = some ob) : Has prog w xs S i h' := let ⟨a, b, c, d, e, f⟩ := q; ⟨a, b, c, d, k _ e, f⟩
theorem adds (V : WalksS prog w A.in1 I fp wr G n P St) (no : S ∉ fp) (len : xs.length = n) (small : n + 1 < scanBound) (is : ∀ i v, P i v → ∃ t, v = .str (xs.getD i Str.empty) t) :
    ∀ (m i : Nat) (s : Shared), n = i + m → St i s → Has prog w xs S i s.heap → (∀ s', Moved (S :: wr) G s s' → Has prog w xs S n s'.heap → R (.ok (.ret .none)) s') → codeAny (model prog w) A (.builtin "set.update.loop" ⟨[.ref S, .ref I], []⟩) R s
  | 0, i, s, e, st, q, fin => by
    have now : i = n := by omega
    subst now
    refine codeAny_builtin F.entry_set_update_loop ?_
    rw [Around.under_plainId F.plain_set_update_loop _]
    refine wpAny_bind (V.done s _ _ st fun s' mv => wpAny_pure (fin s' (mv.mono fun _ => List.mem_cons_of_mem _) (q.go fun _ => mv.heap S _ fun z => no (V.sub _ z))))
  | m + 1, i, s, e, st, q, fin => by
    have lt : i < n := by omega
    refine codeAny_builtin F.entry_set_update_loop ?_
    rw [Around.under_plainId F.plain_set_update_loop _]
    refine wpAny_bind (V.item i s _ _ lt st fun v s1 hv st1 mv => ?_)
    obtain ⟨t, rfl⟩ := is i v hv
    have q1 : Has prog w xs S i s1.heap := q.go fun _ => mv.heap S _ fun z => no (V.sub _ z)
    refine wpAny_bind (wpAny_holding ?_)
    unfold setAdd
    refine wpAny_holding (wpAny_bind ((PySem.strKind prog w).pyHash (k := xs.getD i Str.empty) (strKind_is _ _ _ _) ?_))
    have room : unlike xs i + 1 < scanBound := by have := unlike_le xs i; omega
    refine wpAny_setAddHashed_of (knd := PySem.strKind prog w) (s := { s1 with toks := s1.toks + 1 }) (strKind_is _ _ _ _) rfl q1 room fun h2 ch q2 => ?_
    have q3 : Has prog w xs S (i + 1) h2 := SetOf_congr q2 (fun k => (seen_next (by omega) k).symm) rfl
    refine wpAny_pure ⟨plainId_quiet F.plain_set_update_loop _, adds V no len small is m (i + 1) _ (by omega) (V.frame _ s1 _ _ st1 (Nat.le_succ _) fun b hb o hx => (ch.2 b fun z => no (z ▸ hb)).trans hx) q3 fun s3 mv3 => fin s3 (Moved.trans V.gtrans ((mv.mono fun _ => List.mem_cons_of_mem _).then_heap (Nat.le_succ _) fun b o hb hx => (ch.2 b fun z => hb (z ▸ List.mem_cons_self)).trans hx) mv3)⟩
end
section
variable {prog : Program} {w : World} {A : Around} {E : Value → Shared → Prop} {s : Shared}
abbrev newSet (b : Bool) : Obj := { cls := .type "set", dict := none, data := .set #[] 0 (.fresh 0 0 b) }
theorem strs_nth : ∀ {us : List Value} {xs : List Str}, StrsAre us xs → ∀ (i : Nat) (v : Value), us[i]? = some v → ∃ t, v = .str (xs.getD i Str.empty) t
  | _, _, .nil, i, v, h => by cases i <;> cases h
  | _, _, .cons n t _, 0, v, h => ⟨t, (Option.some.inj h).symm⟩
  | _, _, .cons n t r, i + 1, v, h => strs_nth r i v h
/-- set(xs), xs a list of texts -/
theorem set_of_texts {l : Addr} {its : Array Value} {xs : List Str} {Q : Value → Shared → Prop} (calm : A.handled = none) (li : s.heap.IsList l its) (are : StrsAre its.toList xs) (small : xs.length + 1 < scanBound)
    (go : ∀ (h1 : Heap) (tk : Nat), Has prog w xs s.heap.objs.size xs.length h1 → (∀ b o, b < s.heap.objs.size → s.heap.get? b = some o → h1.get? b = some o) → Q (.ref s.heap.objs.size) { s with heap := h1, toks := tk }) : wpAny (model prog w) A (call (.type "set") [.ref l]) Q E s := by
  obtain ⟨c, tl, hmro⟩ := PySem.F.called_set.mro
  have k1 := PySem.F.called_set.made; have k2 := PySem.F.called_set.sub
  have k3 := PySem.F.called_set.notType; have k4 := PySem.F.called_set.canCreate
  have k5 := PySem.F.typeCall_set_1 (.ref l)
  refine wpAny_call (codeAny_of_tree ?_)
  show wpAny _ _ (callAny (.type "set") _) _ _ _
  refine wpAny_pure ⟨Code.quiet_builtin _ (by decide +kernel), codeAny_builtin PySem.F.entry_type_call ?_⟩
  rw [Around.under_plain (weight_type_call_type "set" [.ref l] []) rfl]
  repeat any_goals first | assumption | wp_step
  refine codeAny_mono (code_set_new_1 (.ref l) (E := E) (Q₁ := fun ob s1 => ∃ b : Bool, ob = .ref s.heap.objs.size ∧ s1 = { s with heap := s.heap.push (newSet b) }) fun b => ⟨b, rfl, rfl⟩) fun r s1 hr => ?_
  match r, hr with
  | .error e, hr => exact hr
  | .ok (.ret ob), hr =>
    obtain ⟨b, rfl, rfl⟩ := hr
    have at1 : (s.heap.push (newSet b)).get? s.heap.objs.size = some (newSet b) := Heap.get?_push_size _ rfl
    have ty1 : Shared.TypeIs { s with heap := s.heap.push (newSet b) } (.ref s.heap.objs.size) "set" := ⟨_, at1, rfl⟩
    have k6 := PySem.F.called_set.init.lookup; have k7 := PySem.F.called_set.init.bind (.ref s.heap.objs.size)
    repeat any_goals first | assumption | wp_step
    refine codeAny_mono (codeAny_call_builtin (R := wants (fun r s2 => r = .none ∧ ∃ h1 tk, s2 = { s with heap := h1, toks := tk } ∧ Has prog w xs s.heap.objs.size xs.length h1 ∧ ∀ b o, b < s.heap.objs.size → s.heap.get? b = some o → h1.get? b = some o) E) PySem.F.called_set.init.plain PySem.F.entry_set_init (check_set_init_1 ty1 ?_)) fun r2 s2 hr2 => ?_
    · obtain ⟨⟨oc, od, oda, osl⟩, hol, hcl, nl, hdl⟩ := li
      cases hcl; cases hdl
      have li1 : (s.heap.push (newSet b)).IsList l its := ⟨_, Heap.get?_push_of_some _ hol, rfl, nl, rfl⟩
      have got : (s.heap.push (newSet b)).get? l = some { cls := .type "list", dict := od, data := .seq its nl, slots := osl } := Heap.get?_push_of_some _ hol
      have n1 := PySem.F.sub_list_set; have n2 := PySem.F.sub_list_frozenset
      have n3 : (Value.type "list" == Value.type "dict") = false := by decide
      unfold Builtin.«set.__init__» noKeywords Builtin.Frozenset.updateFrom
      generalize hPI : pyIter = PI
      wp_walk
      subst hPI
      refine wpAny_pyIter_list li1 (wpAny_bind (wpAny_runValue ?_))
      have lo : l < s.heap.objs.size := Heap.lt_size hol
      have big : (s.heap.push (newSet b)).objs.size = s.heap.objs.size + 1 := Heap.size_push _ _
      have ne : l ≠ (s.heap.push (newSet b)).objs.size := by rw [Heap.size_push]; exact Nat.ne_of_lt (Nat.lt_succ_of_lt lo)
      have len : xs.length = its.size := by rw [← StrsAre.len_eq are, Array.length_toList]
      refine adds ((Walks.list (A := A.in1.in1.in1) (by simpa using calm) _ l ne its).toS) (fun z => by
        rcases List.mem_cons.mp z with z | z
        · rw [Heap.size_push] at z; exact Nat.ne_of_lt (Nat.lt_succ_self _) z
        · exact Nat.ne_of_gt lo (List.mem_singleton.mp z)) len (by omega) (fun i v hv => strs_nth are i v (by rw [Array.getElem?_toList]; exact hv)) its.size 0 _ (by omega) ⟨⟨_, Heap.get?_push_size _ rfl, rfl, rfl⟩, li1.push _⟩ ?h0 ?h1
      case h0 =>
        exact SetOf_congr ((setObjOf_fresh (knd := PySem.strKind prog w) b).setOf (Heap.get?_push_of_some _ at1) (by unfold scanBound; omega)) (fun _ => rfl) rfl
      case h1 =>
        rintro ⟨h1, g1, d1, t1, o1⟩ mv q
        cases mv.gens; cases mv.drawn; cases mv.os
        refine wpAny_pure (wpAny_pure ⟨rfl, h1, t1, rfl, by rw [len]; exact q, fun b2 o hb e => ?_⟩)
        exact mv.heap b2 o (fun z => by
          rcases List.mem_cons.mp z with z | z
          · exact Nat.ne_of_lt hb z
          · have z := List.mem_singleton.mp z
            rw [Heap.size_push] at z; exact Nat.ne_of_lt (Nat.lt_succ_of_lt hb) z) (Heap.get?_push_of_some _ (Heap.get?_push_of_some _ e))
    · match r2, hr2 with
      | .error e, hr2 => exact hr2
      | .ok (.ret v), hr2 =>
        obtain ⟨rfl, h1, tk, rfl, q, k⟩ := hr2
        repeat any_goals first | assumption | wp_step
        exact go _ _ q k
      | .ok .next, hr2 => exact hr2.elim
      | .ok .brk, hr2 => exact hr2.elim
      | .ok .cont, hr2 => exact hr2.elim
  | .ok .next, hr => exact hr.elim
  | .ok .brk, hr => exact hr.elim
  | .ok .cont, hr => exact hr.elim
end
end Tst

namespace Dn
open PySem L2 PyProof.Rows PySem.Spec
/-! ### len(set(texts)) as an expression -/
theorem are_of : ∀ {ys : List Str} {us : List Value}, Vals (ys.map V.str) us → StrsAre us ys
  | [], _, .nil => .nil
  | y :: _, _, .cons ⟨k, e⟩ t => e ▸ .cons y k (are_of t)
def tLenS (K : PySem.W.Frag) (ta : TE) : TE := fun σ H Q => ta σ H fun x H1 => ∃ (l : Addr) (xs : List Str), x = .ref l ∧ SqL K H1 l (xs.map V.str) ∧ xs.length ≤ 4000 ∧ Q (.int (Tst.unlike xs xs.length : Nat)) H1
theorem pe_lenS {X : Cx} {a : Expr} {ta : TE} {p p2 q pos : Pos} (g1 : Gl X "len") (m1 : X.mg "len" = none) (g2 : Gl X "set") (m2 : X.mg "set" = none) (ha : PE X a ta) (hc : X.calm = true := by rfl) (na : starEach [a] X.env = (false, eval a X.env) :: starEach [] X.env := by rfl) :
    PE X (.Call (.Name "len" p) [.Call (.Name "set" p2) [a] [] q] [] pos) (tLenS X.K ta) := by
  refine ⟨fun pins s σ H Q I h => Call_ (ld_blt I g1 m1 boot_len (callWith_builtin1 (args_cons (Call_ (ld_blt I g2 m2 boot_set (callWith_type1 (args_cons (thn (ha.run pins s σ H _ I h) fun v s1 ⟨x, H1, I1, r1, l, xs, ex, hq, small, q1⟩ => args_nil ?_) na) na rfl))) rfl) rfl rfl))⟩
  cases ex
  cases r1
  obtain ⟨its, r, pl, hz⟩ := I1.list hq
  refine Tst.set_of_texts (I1.ok.hd hc) pl.isList (by simpa using are_of r) (by unfold scanBound; omega) fun h1 tk has keep => args_nil ?_
  obtain ⟨o, es, ep, t, ho, hex, hd, _, _, _, hf, hn⟩ := has
  have I2 : Inv X pins σ H1 { s1 with heap := h1, toks := tk } := I1.kept fun b o e => keep b o (Heap.lt_size e) e
  have le := Tst.unlike_le xs xs.length
  exact call_len_set ho hex hd hf (by rw [hn] <;> omega) ⟨.int _, H1, I2.tok _, ⟨_, by rw [hn]⟩, q1⟩
section
variable {m : Bool} {X : Cx} {W : WX} {ca : Ct} {a : Expr} {fa : En → M D} {pos : Pos} {g : G} {S : Store}
def eLenS (fa : En → M D) : En → M D := fun env => M.bind (fa env) fun x => match x with
  | .lst ds => M.bind (M.lift (strsD ds)) fun xs => if xs.length ≤ 4000 then M.ret (.int (Tst.unlike xs xs.length : Nat)) else M.bad
  | _ => M.bad
theorem strs_vs : ∀ {F : Hp} {p : Pi} {vs : List V} {ds : List D} {xs : List Str}, RpA F p vs ds → strsD ds = some xs → vs = xs.map V.str
  | _, _, _, _, xs, .nil, h => by cases h; rfl
  | _, _, _, _, xs, .cons (d := d) hv t, h => by
    cases d with
    | str s =>
      unfold strsD at h
      cases e : strsD _ with
      | none => rw [e] at h; cases h
      | some ys =>
        rw [e] at h
        cases h
        cases hv
        rw [strs_vs t e]; rfl
    | _ => cases h
theorem de_lenS {p p2 q : Pos} (ha : DB m X W ca a fa) (hc : X.calm = true := by rfl) (g1 : Gl X "len" := by rfl) (m1 : X.mg "len" = none := by assumption) (g2 : Gl X "set" := by rfl) (m2 : X.mg "set" = none := by assumption) (na : starEach [a] X.env = (false, eval a X.env) :: starEach [] X.env := by rfl) : DE m X W ca (.Call (.Name "len" p) [.Call (.Name "set" p2) [a] [] q] [] pos) (eLenS fa) := by
  obtain ⟨t, pa, k⟩ := ha
  refine ⟨_, pe_lenS g1 m1 g2 m2 pa hc na, fun H0 g S σ env hS hE Q h => ?_⟩
  refine k H0 g S σ env hS hE _ (sat_mono (seqE h) (fun x S1 q g1 v e1 s1 r1 => ?_) fun _ _ q => q)
  have q := q g1 e1
  cases x with
  | lst ds =>
    obtain ⟨l, vs, rfl, h1, h2⟩ := r1.lst s1
    obtain ⟨xs, hx, q⟩ := sat_lift (sat_bind q)
    have ev := strs_vs h2 hx
    subst ev
    by_cases c : xs.length ≤ 4000
    · rw [if_pos c] at q
      exact ⟨l, xs, rfl, SqL.of h1, c, (show okE m ca g1 Q _ S1 from q) g1 _ (Ext.refl _) s1 (.int _)⟩
    · rw [if_neg c] at q; exact q.elim
  | _ => exact q.elim
end
end Dn

namespace Dn
open PySem L2 PyProof.Rows PySem.Spec
/-! ### a list of the store walked where nothing is written -/
section
variable {m q : Bool} {X : Cx} {W : WX} {ca : Ct} {e : Expr} {fo : En → M D} {pos : Pos} {g : G} {S : Store}
def iRdL (fo : En → M D) : En → M (List D) := fun env => M.bind (fo env) fun x => match x with
  | .lst xs => M.ret xs
  | .obj n => onL (.obj n) fun _ xs => M.ret xs
  | _ => M.bad
theorem di_rdL (ha : DE true X W ca e fo) (hK : ca.K = X.K := by rfl) : DI q true X W ca e (iRdL fo) := by
  obtain ⟨t, p, k⟩ := ha
  refine ⟨_, fun tg => pi_list p, fun H0 g S σ env hS hE R h => ?_⟩
  refine k H0 g S σ env hS hE _ (sat_mono (seqI (P := itP q true ca R) itP.mono h) (fun x S1 z g1 v e1 s1 r1 => ?_) fun _ _ q => q)
  have z := z g1 e1
  cases x with
  | lst xs =>
    obtain ⟨a, vs, rfl, h1, h2⟩ := Rb.lst (m := true) s1 (Or.inl r1)
    cases r1 with
    | lst y1 y2 =>
      refine ⟨a, rfl, ⟨vs, SqL.of h1⟩, (show itP q true ca R g1 xs S1 from z) g1 _ (Ext.refl _) s1 (itl_ok (fun g' S e hS => ?_) h2)⟩
      have y3 := s1.same _ _ y1
      rw [h1] at y3
      cases y3
      exact SqL.of (hS.same _ _ (e.mo.same _ _ y1))
  | obj n =>
    obtain ⟨n', ob, xs, e0, h1, h2, z⟩ := onL_get z
    cases e0
    obtain ⟨a, vs, rfl, k1, k2, k3⟩ := s1.rawL h1 h2 r1
    exact ⟨a, rfl, ⟨vs, SqL.of k2⟩, (show itP q true ca R g1 xs S1 from z) g1 _ (Ext.refl _) s1 (itl_ok (fun g' S e hS => SqL.of ((e.mo.pure rfl).2 _ _ _ k1 k2)) k3)⟩
  | _ => exact z.elim
end
end Dn

namespace Dn
open PySem L2 PyProof.Rows PySem.Spec
/-! ### a list of lists of the store, compared whole where nothing is written -/
def der1 (S : Store) : D → D
  | .obj n => match S[n]? with
    | some ob => match ob.raw with
      | some (.o xs) => .lst xs
      | _ => .obj n
    | none => .obj n
  | d => d
def derD (S : Store) : D → D
  | .lst ds => .lst (ds.map (der1 S))
  | d => d
theorem der1_L {S : Store} {n : Nat} {xs : List D} (h : S[n]? = some (rL xs)) : der1 S (.obj n) = .lst xs := by unfold der1; simp only [h, raw_L]
section
variable {m : Bool} {X : Cx} {W : WX} {ca : Ct} {a b e o : Expr} {fa fb fo : En → M D} {pos : Pos} {g : G} {S : Store}
theorem der1_h (hS : SOk ca g S) {v : V} {d : D} (r : Rp g.H g.p v d) : Rp g.H g.p v (der1 S d) := by
  cases d with
  | obj n =>
    cases e : S[n]? with
    | none =>
      have : der1 S (.obj n) = .obj n := by unfold der1; simp only [e]
      rw [this]; exact r
    | some ob =>
      cases er : ob.raw with
      | none =>
        have : der1 S (.obj n) = .obj n := by unfold der1; simp only [e, er]
        rw [this]; exact r
      | some w =>
        cases w with
        | o xs =>
          have : der1 S (.obj n) = .lst xs := by unfold der1; simp only [e, er]
          rw [this]
          cases r with
          | obj hp =>
            obtain ⟨a, vs, e0, k1, k2, k3⟩ := hS.rawL e er (.obj hp)
            cases e0
            exact .lst k2 (RpA.mono hS.same (PiLe.refl _) k3)
        | f _ =>
          have : der1 S (.obj n) = .obj n := by unfold der1; simp only [e, er]
          rw [this]; exact r
        | k _ =>
          have : der1 S (.obj n) = .obj n := by unfold der1; simp only [e, er]
          rw [this]; exact r
  | _ => exact r
theorem derA_h (hS : SOk ca g S) : ∀ {vs : List V} {ds : List D}, RpA g.H g.p vs ds → RpA g.H g.p vs (ds.map (der1 S))
  | _, _, .nil => .nil
  | _, _, .cons h t => .cons (der1_h hS h) (derA_h hS t)
theorem derD_h (hS : SOk ca g S) {v : V} {d : D} (r : Rp g.H g.p v d) : Rp g.H g.p v (derD S d) := by
  cases r with
  | lst h t => exact .lst h (derA_h hS t)
  | non => exact .non
  | bl b => exact .bl b
  | int b => exact .int b
  | str b => exact .str b
  | tup h t => exact .tup h t
  | dct h t => exact .dct h t
  | scr h => exact .scr h
  | obj h => exact .obj h
def opS (op : D → D → Option Bool) (x y : D) : M Bool := fun S => match op (derD S x) (derD S y) with
  | some b => .ok b S
  | none => .bad
def tNeX (fa fb : En → M D) : En → M Bool := fun env => M.bind (fa env) fun x => M.bind (fb env) fun y => opS neD x y
def eEqX (fa fb : En → M D) : En → M D := fun env => M.bind (fa env) fun x => M.bind (fb env) fun y => M.bind (opS eqD x y) fun b => M.ret (.bl b)
theorem opS_get {op : D → D → Option Bool} {x y : D} {P : Bool → Store → Prop} {E : Str → Store → Prop} (h : (opS op x y S).sat P E) : ∃ b, op (derD S x) (derD S y) = some b ∧ P b S := by
  unfold opS at h
  cases e : op (derD S x) (derD S y) with
  | none => rw [e] at h; exact h.elim
  | some b => rw [e] at h; exact ⟨b, rfl, h⟩
theorem dt_neX (hu : X.A.units + 64 < cLine) (ha : DB true X W ca a fa) (hb : DB true X W ca b fb) : DT true X W ca (.Compare a [.NotEq] [b] pos) (tNeX fa fb) := by
  obtain ⟨ta, pa, ka⟩ := ha
  obtain ⟨tb, pb, kb⟩ := hb
  refine ⟨_, pt_cmpR (op_ne.or (op_neD hu)) pa pb (nomark _), fun H0 g S σ env hS hE Q h => ?_⟩
  refine ka H0 g S σ env hS hE _ (sat_mono (seqT h) (fun x S1 z g1 v e1 s1 r1 => ?_) fun _ _ q => q)
  refine kb H0 g1 S1 σ env s1 (hE.ext e1) _ (sat_mono (seqT (z g1 e1)) (fun y S2 z2 g2 w e2 s2 r2 => ?_) fun _ _ q => q)
  obtain ⟨b, hb, z4⟩ := opS_get (z2 g2 e2)
  have k := (show okT true ca g2 Q b S2 from z4) g2 (Ext.refl _) s2
  have p1 := derD_h s2 ((r1.ext s2 e2).h s2)
  have p2 := derD_h s2 (r2.h s2)
  unfold neD eqD at hb
  split at hb
  · rename_i c
    cases hb
    rcases c with c | ⟨c1, c2⟩
    · obtain ⟨q1, q2⟩ := scal_eq p1 p2 c
      exact .inl ⟨q1, by rw [q2]; exact ⟨_, rfl, k⟩⟩
    · exact .inr ⟨_, _, dp_of (Same.refl _) p1 (SeqAt.canLay_of_shaped c1), dp_of (Same.refl _) p2 (SeqAt.canLay_of_shaped c2), c1, c2, ⟨_, rfl, k⟩⟩
  · cases hb
theorem de_eqX (hu : X.A.units + 64 < cLine) (ha : DB true X W ca a fa) (hb : DB true X W ca b fb) : DE true X W ca (.Compare a [.Eq] [b] pos) (eEqX fa fb) := by
  obtain ⟨ta, pa, ka⟩ := ha
  obtain ⟨tb, pb, kb⟩ := hb
  refine ⟨_, pe_cmpR (op_eq.or (op_eqD hu)) pa pb (nomark _), fun H0 g S σ env hS hE Q h => ?_⟩
  refine ka H0 g S σ env hS hE _ (sat_mono (seqE h) (fun x S1 z g1 v e1 s1 r1 => ?_) fun _ _ q => q)
  refine kb H0 g1 S1 σ env s1 (hE.ext e1) _ (sat_mono (seqE (z g1 e1)) (fun y S2 z2 g2 w e2 s2 r2 => ?_) fun _ _ q => q)
  obtain ⟨b, hb, z4⟩ := opS_get (sat_bind (z2 g2 e2))
  have k := (show okE true ca g2 Q (.bl b) S2 from z4) g2 _ (Ext.refl _) s2 (.bl b)
  have p1 := derD_h s2 ((r1.ext s2 e2).h s2)
  have p2 := derD_h s2 (r2.h s2)
  unfold eqD at hb
  split at hb
  · rename_i c
    cases hb
    rcases c with c | ⟨c1, c2⟩
    · obtain ⟨q1, q2⟩ := scal_eq p1 p2 c
      exact .inl ⟨q1, by rw [q2]; exact k⟩
    · exact .inr ⟨_, _, dp_of (Same.refl _) p1 (SeqAt.canLay_of_shaped c1), dp_of (Same.refl _) p2 (SeqAt.canLay_of_shaped c2), c1, c2, k⟩
  · cases hb
end
end Dn

/-! Dn43: sorted of triples (two ints, a text) of which no two unlike ones have the same ints; a list times an int. -/
namespace Tri
open PySem PySem.Spec PyProof.Rows L2 Srt
/-- a triple's two ints, and its text -/
abbrev T3 := Int × Int × Str
abbrev two (p : T3) : Int × Int := (p.1, p.2.1)
def Is3 (hp : Heap) (val : Value) (p : T3) : Prop := ∃ adr ob c1 c2 c3 ep, val = .ref adr ∧ hp.get? adr = some ob ∧ ob.cls = .type "tuple" ∧ ob.data = .seq #[.int p.1 c1, .int p.2.1 c2, .str p.2.2 c3] ep
theorem Is3.stays {hp hp' : Heap} {val : Value} {p : T3} (h : Is3 hp val p) (st : ∀ b ob, hp.get? b = some ob → ob.cls = .type "tuple" → hp'.get? b = some ob) : Is3 hp' val p := by
  obtain ⟨adr, ob, c1, c2, c3, ep, e, g1, g2, g3⟩ := h
  exact ⟨adr, ob, c1, c2, c3, ep, e, st _ _ g1 g2, g2, g3⟩
section
variable {prog : Program} {w : World} {A : PySem.Around} {s : Shared}
theorem lex_self {a b : Int × Int} (h1 : a.1 = b.1) (h2 : a.2 = b.2) : SrtO.lexB a b = false := SrtO.lexB_no.mpr (by omega)
theorem cmp3 {vals : List Value} {key : Value → T3} (is : ∀ u ∈ vals, Is3 s.heap u (key u)) (un : ∀ u ∈ vals, ∀ v ∈ vals, two (key u) = two (key v) → (key u).2.2 = (key v).2.2) :
    SrtO.Cmp prog w A s (tuples' true) (fun z => z.1 ∈ vals) (SrtO.lt2 fun u v => SrtO.lexB (two (key u)) (two (key v))) := fun z1 z2 m1 m2 => by
  have un := un _ m1 _ m2
  obtain ⟨adr, ob, c1, c2, c3, ep, e, g1, g2, g3⟩ := is _ m1
  obtain ⟨adr', ob', d1, d2, d3, ep', e', k1, k2, k3⟩ := is _ m2
  show wpAny (model prog w) A (keyLt' (tuples' true) z1.1 z2.1) (fun r s' => s' = s ∧ r = SrtO.lexB (two (key z1.1)) (two (key z2.1))) _ s
  generalize key z1.1 = p at *
  generalize key z2.1 = q at *
  rw [e, e']
  refine PySem.W.kat_lt g1 g3 k1 k3 ?_
  refine PySem.W.kat_cons (SeqAt.EqAt.int_int p.1 c1 q.1 d1 prog w _ _ (PySem.W.kat_go (fun r1 => ?_) fun r1 => ?_))
  · have x1 : p.1 = q.1 := by simpa using r1
    refine PySem.W.kat_yes (PySem.W.kat_cons (SeqAt.EqAt.int_int p.2.1 c2 q.2.1 d2 prog w _ _ (PySem.W.kat_go (fun r2 => ?_) fun r2 => ?_)))
    · have x2 : p.2.1 = q.2.1 := by simpa using r2
      have x3 : p.2.2 = q.2.2 := un (by rw [show two p = (p.1, p.2.1) from rfl, x1, x2])
      refine PySem.W.kat_yes (PySem.W.kat_cons (SeqAt.EqAt.str_str p.2.2 c3 q.2.2 d3 prog w _ _ (PySem.W.kat_go (fun r3 => ?_) fun r3 => ?_)))
      · exact PySem.W.kat_yes (PySem.W.kat_nil ⟨rfl, (lex_self (a := two p) (b := two q) x1 x2).symm⟩)
      · exact absurd x3 (by simpa using r3)
    · have x2 : ¬ p.2.1 = q.2.1 := by simpa using r2
      have y : SrtO.lexB (two p) (two q) = decide (p.2.1 < q.2.1) := by unfold SrtO.lexB; exact if_pos x1
      exact PySem.W.kat_no (PySem.W.kat_one _ _ (PyProof.Rows.lt_int ⟨rfl, y.symm⟩))
  · have x1 : ¬ p.1 = q.1 := by simpa using r1
    have y : SrtO.lexB (two p) (two q) = decide (p.1 < q.1) := by unfold SrtO.lexB; exact if_neg x1
    exact PySem.W.kat_no (oneLt_int ⟨rfl, y.symm⟩)
theorem heads3 {hp : Heap} : ∀ {vals : List Value} {key : Value → T3}, (∀ u ∈ vals, Is3 hp u (key u)) → ∃ hd : List Value, PySem.W.KatTups hp vals hd ∧ hd.length = vals.length ∧ ∀ u ∈ hd, ∃ i c, u = Value.int i c
  | [], _, _ => ⟨[], .nil, rfl, fun _ m => nomatch m⟩
  | u :: vals, key, h => by
    obtain ⟨hd, q1, q2, q3⟩ := heads3 (vals := vals) (key := key) fun v m => h v (List.mem_cons_of_mem _ m)
    obtain ⟨adr, ob, c1, c2, c3, ep, rfl, g1, g2, g3⟩ := h u List.mem_cons_self
    refine ⟨_ :: hd, .cons g1 g2 g3 rfl q1, congrArg (· + 1) q2, fun v m => ?_⟩
    cases m with
    | head => exact ⟨_, _, rfl⟩
    | tail _ m => exact q3 v m
theorem sort3 {a : Addr} {vals : List Value} {key : Value → T3} (pos : 0 < vals.length) (is : ∀ u ∈ vals, Is3 s.heap u (key u)) (un : ∀ u ∈ vals, ∀ v ∈ vals, two (key u) = two (key v) → (key u).2.2 = (key v).2.2) (na : ∀ ob, s.heap.get? a = some ob → ob.cls ≠ .type "tuple") :
    SrtO.SortableO prog w A s a vals fun u v => SrtO.lexB (two (key u)) (two (key v)) := fun hp' st => by
  have is' : ∀ u ∈ vals, Is3 hp' u (key u) := fun u m => (is u m).stays fun b ob g c => st b ob (fun z => na ob (z ▸ g) c) g
  obtain ⟨hd, q1, q2, q3⟩ := heads3 is'
  refine ⟨tuples' true, fun Q E k => PySem.W.kat_kind (T := .type "int") q1 (by omega) (fun u m => ?_) rfl ?_, cmp3 is' un⟩
  · obtain ⟨i, c, rfl⟩ := q3 u m
    exact .now
  · rw [show (Value.type "int" != Value.type "tuple") = true by first | decide +kernel | rfl | decide]
    exact k
theorem swo3 {α : Type} (key : α → T3) : SrtO.Swo fun u v : α => SrtO.lexB (two (key u)) (two (key v)) :=
  ⟨fun u v h => by rw [SrtO.lexB_iff] at h; rw [SrtO.lexB_no]; omega, fun u v z h k => by rw [SrtO.lexB_no] at h k ⊢; omega⟩
end
end Tri
namespace Dn
open PySem L2 PyProof.Rows PySem.Spec Tri
/-- sorted(xs), xs a list of such triples -/
def rSort3 (K : PySem.W.Frag) : List V → Hp → VK → Prop := fun vs H Q => ∃ (a : Addr) (xs : List V) (key : V → T3), vs = [V.ref a] ∧ SqL K H a xs ∧ (∀ x ∈ xs, ∃ t, x = V.ref t ∧ H t = some (.tup [.int (key x).1, .int (key x).2.1, .str (key x).2.2])) ∧
  (∀ x ∈ xs, ∀ y ∈ xs, two (key x) = two (key y) → (key x).2.2 = (key y).2.2) ∧ ∀ ys p, SrtO.Srtd (fun x y => SrtO.lexB (two (key x)) (two (key y))) ys → ys.Perm xs → H p = none → Q (.ref p) (upd H p (.lst ys))
theorem cr_sort3 {X : Cx} : CallR X (.builtin "sorted") (rSort3 X.K) := fun {pins s σ H vs us Q} I r h => by
  obtain ⟨a, xs, key, rfl, hs, hx, un, q⟩ := h
  obtain ⟨its, rv, hl, hz⟩ := I.list hs
  obtain ⟨u, rfl, ru⟩ := vals1 r
  cases (show u = Value.ref a from ru)
  obtain ⟨e1, e2⟩ := refs_back rv fun x m => (hx x m).imp fun _ z => z.1
  have mem : ∀ v ∈ its, backV v ∈ xs := fun v m => e1 ▸ List.mem_map.mpr ⟨v, m, rfl⟩
  have is : ∀ v ∈ its, Is3 s.heap v (key (backV v)) := fun v m => by
    have mm := mem v m
    obtain ⟨t, rfl⟩ := e2 v m
    obtain ⟨t', e, ht⟩ := hx _ mm
    cases e
    obtain ⟨_, its2, r2, ob, ho, hc, n, hd⟩ := I.hok _ _ ht
    cases r2 with
    | cons ri r2 =>
      obtain ⟨u1, u2, rfl, rj, rk⟩ := vals2 r2
      obtain ⟨c1, rfl⟩ := ri
      obtain ⟨c2, rfl⟩ := rj
      obtain ⟨c3, rfl⟩ := rk
      exact ⟨t, ob, c1, c2, c3, n, rfl, ho, hc, hd⟩
  have un' : ∀ u ∈ its, ∀ v ∈ its, two (key (backV u)) = two (key (backV v)) → (key (backV u)).2.2 = (key (backV v)).2.2 := fun u m v m' => un _ (mem u m) _ (mem v m')
  refine SrtO.sorted_ord (swo3 fun v => key (backV v)) hl.isList (by rw [← rv.length]; exact hz) (fun h2 h₁ b hb kk => ?_) fun out h1 h2 => ?_
  · refine sort3 (s := { s with heap := h₁ }) (by omega) (fun v m => (is v m).stays fun b ob e _ => (kk b ob e).2) un' fun ob e c => ?_
    cases (show some ob = some _ from e.symm.trans hb)
    exact absurd (Value.type.inj c) (by decide)
  · have h3 : ∀ v ∈ out, ∃ a, v = Value.ref a := fun v m => e2 v (h2.perm.mem_iff.mp m)
    have pm : (out.map backV).Perm xs := e1 ▸ h2.perm.map backV
    obtain ⟨ep, hn⟩ := sortedAll_at s.heap its out.toArray
    refine ⟨.ref _, upd H _ (.lst (out.map backV)), I.laid (t' := s.toks) (fun b ob e => sortedAll_old e) (Nat.le_succ _) ⟨?_, out, _, vals_back h3, hn⟩, rfl, q _ _ (SrtO.srtd_map h1) pm (I.hok.fresh (Nat.le_succ _))⟩
    rw [pm.length_eq]
    exact hz
/-! ### as a word of the layer -/
def tri (d : D) : Option T3 := match d with
  | .tup [.int i, .int j, .str x] => some (i, j, x)
  | _ => none
def tris : List D → Option (List T3)
  | [] => some []
  | d :: ds => (tri d).bind fun p => (tris ds).map fun ps => p :: ps
def triE (p : T3) : D := .tup [.int p.1, .int p.2.1, .str p.2.2]
def leT (p q : T3) : Bool := !SrtO.lexB (two q) (two p)
def sortT (ps : List T3) : List T3 := ps.mergeSort leT
def unT (ps : List T3) : Bool := ps.all fun p => ps.all fun q => !decide (two p = two q) || decide (p.2.2 = q.2.2)
def oSortT (fa : En → M D) : En → M (List D) := fun env => M.bind (fa env) fun x => match x with
  | .lst xs => M.lift ((tris xs).bind fun ps => if unT ps = true then some ((sortT ps).map triE) else none)
  | _ => M.bad
theorem tri_is {d : D} {p : T3} (h : tri d = some p) : d = triE p := by
  unfold tri at h
  split at h
  · cases h; rfl
  · cases h
theorem tris_is : ∀ {ds : List D} {ps : List T3}, tris ds = some ps → ds = ps.map triE
  | [], _, h => by cases h; rfl
  | d :: ds, ps, h => by
    unfold tris at h
    cases e : tri d with
    | none => rw [e] at h; cases h
    | some p =>
      rw [e] at h
      cases e2 : tris ds with
      | none => rw [e2] at h; cases h
      | some qs =>
        rw [e2] at h
        cases h
        rw [tri_is e, tris_is e2, List.map_cons]
theorem tris_map : ∀ ps : List T3, tris (ps.map triE) = some ps
  | [] => rfl
  | p :: ps => by
    rw [List.map_cons, tris, show tri (triE p) = some p from rfl, Option.bind_some, tris_map ps]
    rfl
theorem leT_lex {p q : T3} : leT p q = true ↔ p.1 < q.1 ∨ (p.1 = q.1 ∧ p.2.1 ≤ q.2.1) := by
  unfold leT
  rw [Bool.not_eq_true', SrtO.lexB_no]
  show ¬ (q.1 < p.1 ∨ q.1 = p.1 ∧ q.2.1 < p.2.1) ↔ _
  omega
theorem sortT_sorted (ps : List T3) : (sortT ps).Pairwise fun a b => leT a b = true :=
  List.pairwise_mergeSort (fun a b c h1 h2 => by rw [leT_lex] at *; omega) (fun a b => by rw [Bool.or_eq_true, leT_lex, leT_lex]; omega) ps
theorem sortT_perm (ps : List T3) : (sortT ps).Perm ps := List.mergeSort_perm ps leT
theorem unT_iff {ps : List T3} : unT ps = true ↔ ∀ p ∈ ps, ∀ q ∈ ps, two p = two q → p.2.2 = q.2.2 := by
  unfold unT
  rw [List.all_eq_true]
  refine ⟨fun h p hp q hq e => ?_, fun h p hp => List.all_eq_true.mpr fun q hq => ?_⟩
  · have := List.all_eq_true.mp (h p hp) q hq
    rw [decide_eq_true e] at this
    simpa using this
  · by_cases e : two p = two q
    · rw [decide_eq_true (h p hp q hq e)]; simp
    · rw [decide_eq_false e]; rfl
theorem sort_uniqT : ∀ {l m : List T3}, l.Perm m → (∀ p ∈ l, ∀ q ∈ l, two p = two q → p.2.2 = q.2.2) → l.Pairwise (fun a b => leT a b = true) → m.Pairwise (fun a b => leT a b = true) → l = m
  | [], m, h, _, _, _ => (List.nil_perm.mp h).symm
  | a :: l, [], h, _, _, _ => absurd h.length_eq (by simp)
  | a :: l, b :: m, h, un, h1, h2 => by
    obtain ⟨l1, l2⟩ := List.pairwise_cons.mp h1
    obtain ⟨m1, m2⟩ := List.pairwise_cons.mp h2
    have hb : b ∈ a :: l := h.mem_iff.mpr List.mem_cons_self
    have e : a = b := by
      rcases List.mem_cons.mp (h.mem_iff.mp List.mem_cons_self) with e | ha
      · exact e
      · rcases List.mem_cons.mp hb with e | hb'
        · exact e.symm
        · have x := leT_lex.mp (l1 b hb')
          have y := leT_lex.mp (m1 a ha)
          have z1 : a.1 = b.1 := by omega
          have z2 : a.2.1 = b.2.1 := by omega
          have z3 := un a List.mem_cons_self b hb (by show (a.1, a.2.1) = (b.1, b.2.1); rw [z1, z2])
          exact Prod.ext z1 (Prod.ext z2 z3)
    subst e
    rw [sort_uniqT ((List.perm_cons a).mp h) (fun p hp q hq => un p (List.mem_cons_of_mem _ hp) q (List.mem_cons_of_mem _ hq)) l2 m2]
def key3 (F : Hp) (v : V) : T3 := match v with
  | .ref a => match F a with
    | some (.tup [.int i, .int j, .str x]) => (i, j, x)
    | _ => (0, 0, Str.empty)
  | _ => (0, 0, Str.empty)
theorem key3_is {F : Hp} {p : Pi} {v : V} {q : T3} (r : Rp F p v (triE q)) : ∃ t, v = .ref t ∧ F t = some (.tup [.int q.1, .int q.2.1, .str q.2.2]) ∧ key3 F v = q := by
  cases r with
  | tup h t =>
    cases t with
    | cons h1 t => cases t with
      | cons h2 t => cases t with
        | cons h3 t =>
          cases t; cases h1; cases h2; cases h3
          exact ⟨_, rfl, h, by unfold key3; simp only [h]⟩
theorem rpA_of3 {F : Hp} {p : Pi} : ∀ {ys : List V}, (∀ y ∈ ys, Rp F p y (triE (key3 F y))) → RpA F p ys ((ys.map (key3 F)).map triE)
  | [], _ => .nil
  | y :: ys, h => .cons (h y List.mem_cons_self) (rpA_of3 fun z hz => h z (List.mem_cons_of_mem _ hz))
theorem rpA_3 {F : Hp} {p : Pi} : ∀ {xs : List V} {ps : List T3}, RpA F p xs (ps.map triE) → xs.map (key3 F) = ps ∧ ∀ x ∈ xs, Rp F p x (triE (key3 F x)) ∧ ∃ t, x = .ref t ∧ F t = some (.tup [.int (key3 F x).1, .int (key3 F x).2.1, .str (key3 F x).2.2])
  | [], [], _ => ⟨rfl, fun x h => by cases h⟩
  | [], q :: qs, r => by cases r
  | x :: xs, [], r => by cases r
  | x :: xs, q :: qs, r => by
    cases r with
    | cons h t =>
      obtain ⟨e1, e2⟩ := rpA_3 t
      obtain ⟨t', k1, k2, k3⟩ := key3_is h
      refine ⟨by rw [List.map_cons, k3, e1], fun z hz => ?_⟩
      rcases List.mem_cons.mp hz with rfl | hz
      · rw [k3]; exact ⟨h, t', k1, k2⟩
      · exact e2 z hz
section
variable {m q : Bool} {X : Cx} {W : WX} {ca : Ct} {a b e : Expr} {fa fb fo : En → M D} {pos : Pos} {g : G} {S : Store}
theorem do_sortT {p : Pos} (ha : DB m X W ca a fa) (hK : ca.K = X.K := by rfl) (hg : Gl X "sorted" := by rfl) (hm : X.mg "sorted" = none := by assumption) (hs : starEach [a] X.env = (false, eval a X.env) :: starEach [] X.env := by rfl) (hpl : (backTo pos (starEach [] X.env)).any (·.1) = false := by rfl) :
    DO m X W ca (.Call (.Name "sorted" p) [a] [] pos) (oSortT fa) := by
  obtain ⟨t, pa, ka⟩ := ha
  refine ⟨_, pe_callB cr_sort3 hg hm (by decide +kernel) (pa_cons pa pa_nil hs) (by decide) (by decide) hs hpl, fun H0 g S σ env hS hE Q h => ?_⟩
  refine ka H0 g S σ env hS hE _ (sat_mono (seqO h) (fun x S1 q g1 v e1 s1 r1 => ?_) fun _ _ q => q)
  have q := q g1 e1
  cases x with
  | lst xs =>
    obtain ⟨z, hz, k⟩ := sat_lift q
    cases e3 : tris xs with
    | none => rw [e3] at hz; cases hz
    | some ps =>
      rw [e3, Option.bind_some] at hz
      by_cases cu : unT ps = true
      · rw [if_pos cu] at hz
        cases hz
        obtain ⟨b, vs, rfl, h1, h2⟩ := r1.lst s1
        rw [tris_is e3] at h2
        obtain ⟨k1, k2⟩ := rpA_3 h2
        have un := unT_iff.mp cu
        have km : ∀ x ∈ vs, key3 g1.F x ∈ ps := fun x hx => k1 ▸ List.mem_map.mpr ⟨x, hx, rfl⟩
        refine ⟨b, vs, key3 g1.F, rfl, by rw [← hK]; exact SqL.of h1, fun x hx => ?_, fun x hx y hy => un _ (km x hx) _ (km y hy), fun ys p hs hst hp => ?_⟩
        · obtain ⟨_, t', e, ft⟩ := k2 x hx
          exact ⟨t', e, s1.same _ _ ft⟩
        · have pm : (ys.map (key3 g1.F)).Perm ps := by rw [← k1]; exact hst.map _
          have so : (ys.map (key3 g1.F)).Pairwise fun a b => leT a b = true := by
            rw [List.pairwise_map]
            refine hs.imp fun {a b} hab => ?_
            show (!SrtO.lexB _ _) = true
            rw [show SrtO.lexB (two (key3 g1.F b)) (two (key3 g1.F a)) = false from hab]; rfl
          have e5 := sort_uniqT (pm.trans (sortT_perm ps).symm) (fun p hp q hq => un p (pm.mem_iff.mp hp) q (pm.mem_iff.mp hq)) so (sortT_sorted ps)
          have rr : RpA g1.F g1.p ys ((sortT ps).map triE) := by
            rw [← e5]
            exact rpA_of3 fun y hy => (k2 y (hst.mem_iff.mp hy)).1
          exact k (g1.nw p _) p _ (ext_nw s1 hp _) (sok_nw s1 hp _) hp upd_same (s1.free hp) (s1.nop hp) rr
      · rw [if_neg cu] at hz; cases hz
  | _ => exact q.elim
/-! ### a list times an int -/
theorem rpA_rep {F : Hp} {p : Pi} {vs : List V} {ds : List D} (r : RpA F p vs ds) : ∀ n : Nat, RpA F p (List.replicate n vs).flatten (List.replicate n ds).flatten
  | 0 => .nil
  | n + 1 => by
    rw [List.replicate_succ, List.replicate_succ, List.flatten_cons, List.flatten_cons]
    exact r.append (rpA_rep r n)
def oRep (a b : En → M D) : En → M (List D) := fun env => M.bind (a env) fun x => M.bind (b env) fun y => match x, y with
  | .lst xs, .int n => if 0 ≤ n ∧ n ≤ 1000 ∧ xs.length ≤ 1000 then M.ret (List.replicate n.toNat xs).flatten else M.bad
  | _, _ => M.bad
theorem do_rep (ha : DB m X W ca a fa) (hb : DB m X W ca b fb) : DO m X W ca (.BinOp a .Mult b pos) (oRep fa fb) := by
  obtain ⟨ta, pa, ka⟩ := ha
  obtain ⟨tb, pb, kb⟩ := hb
  refine ⟨_, pe_op op_rep pa pb, fun H0 g S σ env hS hE Q h => ?_⟩
  refine ka H0 g S σ env hS hE _ (sat_mono (seqO h) (fun x S1 q g1 v e1 s1 r1 => ?_) fun _ _ q => q)
  refine kb H0 g1 S1 σ env s1 (hE.ext e1) _ (sat_mono (seqO (q g1 e1)) (fun y S2 q2 g2 u e2 s2 r2 => ?_) fun _ _ q => q)
  have q2 := q2 g2 e2
  have r1 := r1.ext s2 e2
  cases x with
  | lst xs =>
    cases y with
    | int n =>
      dsimp only at q2
      by_cases c : 0 ≤ n ∧ n ≤ 1000 ∧ xs.length ≤ 1000
      · rw [if_pos c] at q2
        have q2 : okO m ca g2 Q (List.replicate n.toNat xs).flatten S2 := q2
        obtain ⟨p, vs, rfl, h1, q1⟩ := r1.lst s2
        cases r2.int
        have hs : vs.length * n.toNat ≤ sizeLine := by
          rw [q1.length]
          have : xs.length * n.toNat ≤ 1000 * 1000 := Nat.mul_le_mul c.2.2 (by omega)
          exact Nat.le_trans this (by decide)
        refine ⟨p, n, vs, rfl, rfl, h1, by omega, by omega, hs, fun l hl => ?_⟩
        exact q2 (g2.nw l _) l _ (ext_nw s2 hl _) (sok_nw s2 hl _) hl upd_same (s2.free hl) (s2.nop hl) (rpA_rep q1 _)
      · rw [if_neg c] at q2; exact q2.elim
    | _ => exact q2.elim
  | _ => exact q2.elim
end
end Dn

/-! Dn44: isinstance of a caught error, of one of several classes. -/
namespace Dn
open PySem L2 PyProof.Rows
def rIsET (K : PySem.W.Frag) (D a : Addr) : List V → Hp → VK → Prop := fun xs H Q => ∃ (tp : Addr) (cs : List V) (us : List Value) (b : Bool), xs = [.ref a, .ref tp] ∧ H tp = some (.tup cs) ∧ (∀ ws, Vals cs ws → ws = us) ∧ PySem.W.kitAny K (.ref D) us = some b ∧ Q (.bl b) H
theorem isinT_at {X : Cx} {a C : Addr} {oe : Obj} (hp : (a, oe) ∈ X.pn) (xc : ExcC X.K C) (hz : Zc (.ref C) none oe) (hf : ∃ vs, oe.data = .fields vs) : CallR X (.builtin "isinstance") (rIsET X.K C a) := fun {pins s σ H xs us Q} I r h => by
  obtain ⟨tp, cs, cvs, b, rfl, hT, hcv, e, q⟩ := h
  match us, r with
  | [u1, u2], .cons rx (.cons rt .nil) =>
    obtain rfl : u1 = Value.ref a := rx
    obtain rfl : u2 = Value.ref tp := rt
    obtain ⟨hget, -⟩ := I.pin (a, oe) (List.mem_append_left _ hp)
    obtain ⟨vs, hv⟩ := hf
    have J : PySem.W.InstAt s.heap a oe C none := by
      rcases oe with ⟨oc, od, oda, osl⟩
      obtain ⟨rfl, rfl⟩ := hz
      obtain rfl : oda = .fields vs := hv
      exact ⟨hget, rfl, rfl, trivial⟩
    obtain ⟨_, its, rv, ⟨tc, td, ta, tl⟩, g1, g2, n, g3⟩ := (show ObjOk X.prog X.w H s.heap tp (.tup cs) from I.hok tp _ hT)
    obtain rfl := hcv _ rv
    obtain rfl : tc = .type "tuple" := g2
    obtain rfl : ta = .seq its.toArray n := g3
    exact PySem.W.kia_tup (PySem.W.handS_kitx_exc xc.hg xc.hk xc.hs xc.hd xc.ha xc.hn xc.ht xc.hm) I.kIn J g1 e (fun z => nomatch z) fun tk => ⟨.bl b, H, I.kept (t' := tk) (fun _ _ z => z), rfl, q⟩
def tAll (vs : List V) : TA := fun _ H Q => Q vs H
section
variable {m : Bool} {X : Cx} {W : WX} {ca : Ct} {a : Addr} {oe : Obj} {c n T : Str} {o : Option Bool} {p p1 p2 pos tpos : Pos} {e : Expr} {es : List Expr} {v : V} {vs : List V} {x1 : Nat}
theorem pac_nil : PA X [] (tAll []) := pa_nil
theorem pac_cons (hv : PE X e (tC v)) (hs : starEach (e :: es) X.env = (false, eval e X.env) :: starEach es X.env) (h : PA X es (tAll vs)) : PA X (e :: es) (tAll (v :: vs)) := pa_cons hv h hs
theorem vals_refs : ∀ (as : List Addr) {ws : List Value}, Vals (as.map V.ref) ws → ws = as.map Value.ref
  | [], _, .nil => rfl
  | a :: as, _, .cons r t => by
    rw [vals_refs as t]
    exact congrArg (· :: as.map Value.ref) (show _ = Value.ref a from r)
theorem de_isTup (as : List Addr) (i : Nat) (hp : (a, oe) ∈ X.pn) (hz : Zc (.ref (ca c)) none oe) (hf : ∃ vs, oe.data = .fields vs) (xc : ∀ b, o = some b → ExcC X.K (ca c)) (pT : PA X es (tAll (as.map V.ref))) (hl : as.length ≤ 100) (hk : ∀ b, o = some b → PySem.W.kitAny X.K (.ref (ca c)) (as.map Value.ref) = some b)
    (hN : X.N[i]? = some n := by rfl) (hvis : Vis X.env.scope n := by first | exact Or.inl rfl | exact Or.inr (Or.inl rfl) | exact Or.inr (Or.inr rfl)) (hd : (n == ("__debug__" : Str)) = false := by decide) (hcd : (n == ("__classdict__" : Str)) = false := by decide)
    (hg : Gl X "isinstance" := by rfl) (hm : X.mg "isinstance" = none := by assumption) (hs : starEach [.Name n p1, .Tuple es x1 tpos] X.env = (false, eval (.Name n p1) X.env) :: starEach [.Tuple es x1 tpos] X.env := by rfl) (hs2 : starEach [.Tuple es x1 tpos] X.env = (false, eval (.Tuple es x1 tpos) X.env) :: starEach [] X.env := by rfl) (hpl : (backTo pos (starEach [.Tuple es x1 tpos] X.env)).any (·.1) = false := by rfl) :
    DE m X W ca (.Call (.Name "isinstance" p) [.Name n p1, .Tuple es x1 tpos] [] pos) (eIsE i a o) := by
  cases e : o with
  | none =>
    refine ⟨fun _ _ _ => False, ⟨fun _ _ _ _ _ _ h => h.elim⟩, fun H0 g S σ env hS hE Q h => ?_⟩
    obtain ⟨b, _, e, _⟩ := eIsE_get h
    cases e
  | some b =>
    refine ⟨_, pe_callB (isinT_at hp (xc b e) hz hf) hg hm PyProof.Rows.boot_isinstance (pa_cons (pe_var hN hvis hd hcd) (pa_cons (pe_tup pT) pa_nil hs2) hs) (he := hs) (hpl := hpl), fun H0 g S σ env hS hE Q h => ?_⟩
    obtain ⟨b', e1, e2, q⟩ := eIsE_get h
    cases e2
    obtain ⟨v', h1, h2⟩ := hE.get e1
    have h2 : v' = some (.ref a) := h2
    subst h2
    refine ⟨_, h1, ?_, fun tp hp' => ⟨tp, as.map V.ref, as.map Value.ref, b, rfl, upd_same, fun ws r => vals_refs as r, hk b e, ?_⟩⟩
    · rw [List.length_map]; exact Nat.le_trans hl (by decide)
    · exact (show okE m ca g Q (.bl b) S from q) (g.nw tp _) _ (ext_nw hS hp' _) (sok_nw hS hp' _) (.bl b)
end
end Dn

namespace Dn
open PySem L2 PyProof.Rows
/-! ### plain laws of the denotations -/
theorem bind_ok {α β : Type} {c : M α} {k : α → M β} {S S' : Store} {a : α} (h : c S = .ok a S') : M.bind c k S = k a S' := by unfold M.bind; rw [h]
theorem liftS_ok {α : Type} {c : M α} {env : En} {k : α → M Fl} {S S' : Store} {a : α} (h : c S = .ok a S') : liftS c env k S = k a S' := by unfold liftS; rw [h]
theorem liftS_exc {α : Type} {c : M α} {env : En} {k : α → M Fl} {S S' : Store} {x : Str} (h : c S = .exc x S') : liftS c env k S = .ok (.ex x env) S' := by unfold liftS; rw [h]
theorem quiet_ok {α : Type} {c : M α} {S S' : Store} {a : α} (h : c S = .ok a S') : quiet c S = .ok a S' := by unfold quiet; rw [h]
theorem sCons_nx {f r : En → M Fl} {env env' : En} {S S' : Store} (h : f env S = .ok (.nx env') S') : sCons f r env S = r env' S' := by unfold sCons; rw [bind_ok h]
theorem sCons_rt {f r : En → M Fl} {env : En} {d : D} {S S' : Store} (h : f env S = .ok (.rt d) S') : sCons f r env S = .ok (.rt d) S' := by unfold sCons; rw [bind_ok h]; rfl
theorem sCons_ex {f r : En → M Fl} {env env' : En} {c : Str} {S S' : Store} (h : f env S = .ok (.ex c env') S') : sCons f r env S = .ok (.ex c env') S' := by unfold sCons; rw [bind_ok h]; rfl
theorem lcD_eval {b : D → En → Option En} {t : En → M Bool} {elt : En → M D} {env : En} (p : D → Bool) (f : D → D) {S : Store} : ∀ (ds acc : List D),
    (∀ d ∈ ds, ∃ env1, b d env = some env1 ∧ t env1 S = .ok (p d) S ∧ (p d = true → elt env1 S = .ok (f d) S)) → acc.length + ds.length ≤ lim → lcD b t elt env ds acc S = .ok (acc ++ (ds.filter p).map f) S
  | [], acc, _, _ => by simp [lcD, M.ret]
  | d :: ds, acc, h, hl => by
    obtain ⟨env1, h1, h2, h3⟩ := h d List.mem_cons_self
    have hl' : acc.length + (ds.length + 1) ≤ lim := by simpa using hl
    unfold lcD
    rw [h1]
    show M.bind _ _ S = _
    rw [bind_ok (quiet_ok h2)]
    cases e : p d with
    | false =>
      rw [if_neg (by simp), lcD_eval p f ds acc (fun d hd => h d (List.mem_cons_of_mem _ hd)) (by omega), List.filter_cons, if_neg (by rw [e]; simp)]
    | true =>
      rw [if_pos rfl, bind_ok (quiet_ok (h3 e))]
      rw [if_pos (show acc.length < lim by omega), lcD_eval p f ds (acc ++ [f d]) (fun d hd => h d (List.mem_cons_of_mem _ hd)) (by simp; omega), List.filter_cons, if_pos e]
      simp
theorem forD_ind {body : En → M Fl} {b : D → En → Option En} (I : List D → En → Store → Prop) (Post : Fl → Store → Prop) (hd : ∀ env S, I [] env S → Post (.nx env) S)
    (hs : ∀ d ds env S, I (d :: ds) env S → ∃ env1, b d env = some env1 ∧ ∃ fl S', body env1 S = .ok fl S' ∧ match fl with
      | .nx e => I ds e S'
      | .ct e => I ds e S'
      | .bk e => Post (.nx e) S'
      | o => Post o S') : ∀ ds env S, I ds env S → ∃ fl S', forD body b ds env S = .ok fl S' ∧ Post fl S'
  | [], env, S, h => ⟨_, _, rfl, hd env S h⟩
  | d :: ds, env, S, h => by
    obtain ⟨env1, h1, fl, S', h2, h3⟩ := hs d ds env S h
    unfold forD
    rw [h1]
    show ∃ fl S', M.bind _ _ S = _ ∧ _
    rw [bind_ok h2]
    cases fl with
    | nx e => exact forD_ind I Post hd hs ds e S' h3
    | ct e => exact forD_ind I Post hd hs ds e S' h3
    | bk e => exact ⟨_, _, rfl, h3⟩
    | rt d => exact ⟨_, _, rfl, h3⟩
    | rtO d => exact ⟨_, _, rfl, h3⟩
    | ex c e => exact ⟨_, _, rfl, h3⟩
/-! ### texts as lists of signs -/
abbrev tx (l : List Nat) : Str := ⟨l.toArray⟩
theorem tx_len (l : List Nat) : (tx l).length = l.length := by simp [Str.length]
theorem tx_of (s : Str) : tx s.cps.toList = s := rfl
theorem tx_inj {a b : List Nat} (h : tx a = tx b) : a = b := by
  have := congrArg (fun x : Str => x.cps.toList) h
  simpa using this
theorem tx_app (a b : List Nat) : tx a ++ tx b = tx (a ++ b) := TL.ext_tl (TL.tl_append (tx a) (tx b))
theorem ordO_one (c : Nat) : ordO [.str ⟨#[c]⟩] = some (.int c) := rfl
theorem ix_sign {l : List Nat} {i : Nat} {c : Nat} (h : l[i]? = some c) (hl : l.length ≤ lim) : ixD (.str (tx l)) (.int (i : Int)) = some (.str ⟨#[c]⟩) := by
  show (if (tx l).length ≤ lim then (atI l (i : Int)).map fun c => D.str ⟨#[c]⟩ else none) = _
  rw [if_pos (by rw [tx_len]; exact hl), atI_nat h]
  rfl
/-- a sign of a written text -/
theorem lit_at {s : Str} (l : List Nat) (e : s = tx l) (P : Nat → Bool) (hP : l.all P = true) (hl : l.length ≤ 1000) {i : Int} (h0 : 0 ≤ i) (h1 : i < l.length) : ∃ c, ixD (.str s) (.int i) = some (.str ⟨#[c]⟩) ∧ P c = true ∧ l[i.toNat]? = some c := by
  obtain ⟨j, rfl⟩ : ∃ j : Nat, i = j := ⟨i.toNat, by omega⟩
  have hj : j < l.length := by omega
  refine ⟨l[j], ?_, List.all_eq_true.mp hP _ (List.getElem_mem hj), by simp [hj]⟩
  rw [e]
  exact ix_sign (List.getElem?_eq_getElem hj) (Nat.le_trans hl (by decide))
end Dn
namespace Dn
open PySem L2 PyProof.Rows
theorem eqD_str (a b : Str) : eqD (.str a) (.str b) = some (decide (a = b)) := by
  unfold eqD
  rw [if_pos (show scalD _ _ = true ∨ _ from Or.inl rfl)]
  simp [toPy, PyData.eqv]
  rw [Bool.eq_iff_iff]; simp
theorem eqD_int (a b : Int) : eqD (.int a) (.int b) = some (decide (a = b)) := by
  unfold eqD
  rw [if_pos (show scalD _ _ = true ∨ _ from Or.inl rfl)]
  simp [toPy, PyData.eqv]
  rw [Bool.eq_iff_iff]; simp
theorem eqD_bl (a b : Bool) : eqD (.bl a) (.bl b) = some (decide (a = b)) := by
  unfold eqD
  rw [if_pos (show scalD _ _ = true ∨ _ from Or.inl rfl)]
  simp [toPy, PyData.eqv]
  rw [Bool.eq_iff_iff]; simp
theorem neD_str (a b : Str) : neD (.str a) (.str b) = some (!decide (a = b)) := by unfold neD; rw [eqD_str]; rfl
theorem neD_int (a b : Int) : neD (.int a) (.int b) = some (!decide (a = b)) := by unfold neD; rw [eqD_int]; rfl
theorem neD_bl (a b : Bool) : neD (.bl a) (.bl b) = some (!decide (a = b)) := by unfold neD; rw [eqD_bl]; rfl
theorem blsD_map : ∀ (bs : List Bool), blsD (bs.map D.bl) = some bs
  | [] => rfl
  | b :: bs => by simp [blsD, blsD_map bs]
theorem strsD_map : ∀ (bs : List Str), strsD (bs.map D.str) = some bs
  | [] => rfl
  | b :: bs => by simp [strsD, strsD_map bs]
theorem intsD_map : ∀ (bs : List Int), intsD (bs.map D.int) = some bs
  | [] => rfl
  | b :: bs => by simp [intsD, intsD_map bs]
theorem inD_sign (c : Nat) (l : List Nat) : inD (.str ⟨#[c]⟩) (.str (tx l)) = some (decide (c ∈ l)) := by
  show some (inStr ⟨#[c]⟩ (tx l)) = _
  unfold inStr
  rw [← show (decide (c ∈ (tx l).cps.toList)) = decide (c ∈ l) from rfl, PySem.StrLaws.found_one (tx l) c]
theorem ninD_sign (c : Nat) (l : List Nat) : ninD (.str ⟨#[c]⟩) (.str (tx l)) = some (!decide (c ∈ l)) := by unfold ninD; rw [inD_sign]; rfl
theorem lenO_tx (l : List Nat) (h : l.length ≤ lim) : lenO [.str (tx l)] = some (.int l.length) := by
  show (if (tx l).length ≤ lim then some (D.int (tx l).length) else none) = _
  rw [tx_len, if_pos h]
theorem signs_tx (l : List Nat) : signsD (tx l) = l.map fun c => .str ⟨#[c]⟩ := rfl
/-- the joined signs -/
theorem joinL_nil : ∀ ls : List (List Nat), TL.joinL [] ls = ls.flatten
  | [] => rfl
  | [p] => by simp [TL.joinL]
  | p :: q :: r => by
    show p ++ ([] ++ TL.joinL [] (q :: r)) = _
    rw [joinL_nil (q :: r)]
    simp
theorem join_tx (ls : List (List Nat)) : Txt.join (tx []) (ls.map tx) = tx ls.flatten := by
  refine TL.ext_tl ?_
  rw [TL.join_eq, TL.tl_join, List.map_map]
  have : (TL.tl ∘ tx) = (id : List Nat → List Nat) := by funext l; rfl
  rw [this, List.map_id]
  exact joinL_nil ls
end Dn
/-! ### the monad's laws -/
namespace Dn
open PySem L2 PyProof.Rows
section
variable {α β : Type}
theorem ret_bind (a : α) (k : α → M β) : M.bind (M.ret a) k = k a := rfl
theorem bad_bind (k : α → M β) : M.bind (M.bad : M α) k = M.bad := rfl
theorem raise_bind (c : Str) (k : α → M β) : M.bind (M.raise c : M α) k = M.raise c := rfl
theorem ite_bind (c : Prop) [Decidable c] (x y : M α) (k : α → M β) : M.bind (if c then x else y) k = if c then M.bind x k else M.bind y k := by split <;> rfl
theorem lift_some (a : α) : M.lift (some a) = M.ret a := rfl
theorem lift_none : M.lift (none : Option α) = M.bad := rfl
theorem lift_ite (c : Prop) [Decidable c] (x y : Option α) : M.lift (if c then x else y) = if c then M.lift x else M.lift y := by split <;> rfl
theorem liftS_ret (a : α) (env : En) (k : α → M Fl) : liftS (M.ret a) env k = k a := rfl
theorem liftS_bad (env : En) (k : α → M Fl) : liftS (M.bad : M α) env k = M.bad := rfl
theorem liftS_raise (c : Str) (env : En) (k : α → M Fl) : liftS (M.raise c : M α) env k = M.ret (.ex c env) := rfl
theorem liftS_ite (c : Prop) [Decidable c] (x y : M α) (env : En) (k : α → M Fl) : liftS (if c then x else y) env k = if c then liftS x env k else liftS y env k := by split <;> rfl
theorem quiet_ret (a : α) : quiet (M.ret a) = M.ret a := rfl
theorem quiet_bad : quiet (M.bad : M α) = M.bad := rfl
theorem quiet_ite (c : Prop) [Decidable c] (x y : M α) : quiet (if c then x else y) = if c then quiet x else quiet y := by split <;> rfl
theorem bind_assoc' {γ : Type} (x : M α) (k : α → M β) (h : β → M γ) : M.bind (M.bind x k) h = M.bind x fun a => M.bind (k a) h := by
  funext S
  unfold M.bind
  cases x S <;> rfl
theorem liftS_bind (x : M β) (k : β → M α) (env : En) (h : α → M Fl) : liftS (M.bind x k) env h = liftS x env fun a => liftS (k a) env h := by
  funext S
  unfold liftS M.bind
  cases x S <;> rfl
theorem ite_app {γ : Type} (c : Prop) [Decidable c] (x y : γ → β) (z : γ) : (if c then x else y) z = if c then x z else y z := by split <;> rfl
end
/-- a comprehension whose parts are known -/
theorem lcD_ret {b : D → En → Option En} {t : En → M Bool} {elt : En → M D} {env : En} (p : D → Bool) (f : D → D) (ds : List D)
    (h : ∀ d ∈ ds, ∃ env1, b d env = some env1 ∧ t env1 = M.ret (p d) ∧ (p d = true → elt env1 = M.ret (f d))) (hl : ds.length ≤ lim) : lcD b t elt env ds [] = M.ret ((ds.filter p).map f) := by
  funext S
  rw [lcD_eval p f ds [] (fun d hd => by
    obtain ⟨e, h1, h2, h3⟩ := h d hd
    exact ⟨e, h1, by rw [h2]; rfl, fun z => by rw [h3 z]; rfl⟩) (by simpa using hl)]
  rfl
/-- .. over what is encoded, without a test -/
theorem lcD_map {α : Type} {b : D → En → Option En} {elt : En → M D} {env : En} (xs : List α) (enc : α → D) (f : α → D) (hl : xs.length ≤ lim) (h : ∀ x ∈ xs, ∃ env1, b (enc x) env = some env1 ∧ elt env1 = M.ret (f x)) : lcD b tYesD elt env (xs.map enc) [] = M.ret (xs.map f) := by
  have key : ∀ (xs : List α) (acc : List D), (∀ x ∈ xs, ∃ env1, b (enc x) env = some env1 ∧ elt env1 = M.ret (f x)) → acc.length + xs.length ≤ lim → lcD b tYesD elt env (xs.map enc) acc = M.ret (acc ++ xs.map f) := by
    intro xs
    induction xs with
    | nil => intro acc _ _; simp [lcD]
    | cons x xs ih =>
      intro acc h hl
      obtain ⟨e, h1, h2⟩ := h x List.mem_cons_self
      have hl : acc.length + (xs.length + 1) ≤ lim := by simpa using hl
      rw [List.map_cons]
      unfold lcD
      rw [h1]
      show M.bind (quiet (M.ret true)) _ = _
      rw [quiet_ret, ret_bind, if_pos rfl, h2, quiet_ret, ret_bind, if_pos (show acc.length < lim by omega), ih _ (fun y hy => h y (List.mem_cons_of_mem _ hy)) (by simp; omega)]
      simp
  simpa using key xs [] h (by simpa using hl)
/-- a loop that carries a state -/
theorem forD_fold {α σ : Type} {body : En → M Fl} {b : D → En → Option En} (enc : α → D) (ev : σ → En) (step : σ → α → σ) (xs : List α) (h : ∀ s, ∀ x ∈ xs, ∃ env1, b (enc x) (ev s) = some env1 ∧ body env1 = M.ret (.nx (ev (step s x)))) :
    ∀ s, forD body b (xs.map enc) (ev s) = M.ret (.nx (ev (xs.foldl step s))) := by
  induction xs with
  | nil => intro s; rfl
  | cons x xs ih =>
    intro s
    obtain ⟨e, h1, h2⟩ := h s x List.mem_cons_self
    rw [List.map_cons]
    unfold forD
    rw [h1]
    show M.bind (body e) _ = _
    rw [h2, ret_bind]
    exact ih (fun s y hy => h s y (List.mem_cons_of_mem _ hy)) _
/-- a loop that looks for something -/
theorem forD_find {α : Type} {body : En → M Fl} {b : D → En → Option En} (enc : α → D) (hit : α → Option D) (I : En → Prop) : ∀ (xs : List α) (env : En), I env → (∀ env, I env → ∀ x ∈ xs, ∃ env1, b (enc x) env = some env1 ∧ match hit x with
      | some d => body env1 = M.ret (.rt d)
      | none => ∃ env2, body env1 = M.ret (.nx env2) ∧ I env2) →
    (∃ d, xs.findSome? hit = some d ∧ forD body b (xs.map enc) env = M.ret (.rt d)) ∨ (xs.findSome? hit = none ∧ ∃ env', I env' ∧ forD body b (xs.map enc) env = M.ret (.nx env'))
  | [], env, i, _ => .inr ⟨rfl, env, i, rfl⟩
  | x :: xs, env, i, h => by
    obtain ⟨e, h1, h2⟩ := h env i x List.mem_cons_self
    rw [List.map_cons]
    unfold forD
    rw [h1]
    cases hx : hit x with
    | some d =>
      rw [hx] at h2
      refine .inl ⟨d, by rw [List.findSome?_cons, hx], ?_⟩
      show M.bind (body e) _ = _
      rw [h2, ret_bind]
    | none =>
      rw [hx] at h2
      obtain ⟨env2, h3, h4⟩ := h2
      rw [List.findSome?_cons, hx]
      have ih := forD_find enc hit I xs env2 h4 fun env i y hy => h env i y (List.mem_cons_of_mem _ hy)
      have e2 : M.bind (body e) (fun fl => match fl with
        | .nx e => forD body b (xs.map enc) e
        | .ct e => forD body b (xs.map enc) e
        | .bk e => M.ret (.nx e)
        | o => M.ret o) = forD body b (xs.map enc) env2 := by rw [h3, ret_bind]
      rcases ih with ⟨d, h5, h6⟩ | ⟨h5, env', h6, h7⟩
      · exact .inl ⟨d, h5, e2.trans h6⟩
      · exact .inr ⟨h5, env', h6, e2.trans h7⟩
end Dn
namespace Dn
open PySem L2 PyProof.Rows
theorem tx_eq_nil (l : List Nat) : (tx l = Str.ofString "") = (l = []) := propext ⟨fun h => tx_inj (h.trans (show Str.ofString "" = tx [] from rfl)), fun h => by subst h; rfl⟩
theorem allO_map {α : Type} (xs : List α) (g : α → Bool) : allO [.lst (xs.map fun x => .bl (g x))] = some (.bl (xs.all g)) := by
  have e : (xs.map fun x => D.bl (g x)) = (xs.map g).map D.bl := by simp
  show (blsD (xs.map fun x => D.bl (g x))).map (fun bs => D.bl (bs.all id)) = _
  rw [e, blsD_map]
  simp
end Dn

namespace Dn
open PySem L2 PyProof.Rows
/-! ### equations with the store applied: what is after a step stays asleep -/
section
variable {α β γ : Type}
def bindR (r : R α) (k : α → M β) : R β := match r with
  | .ok a S => k a S
  | .exc c S => .exc c S
  | .bad => .bad
def liftR (r : R α) (env : En) (k : α → M Fl) : R Fl := match r with
  | .ok a S => k a S
  | .exc c S => .ok (.ex c env) S
  | .bad => .bad
theorem bind_S (c : M α) (k : α → M β) (S : Store) : M.bind c k S = bindR (c S) k := rfl
theorem liftS_S (c : M α) (env : En) (k : α → M Fl) (S : Store) : liftS c env k S = liftR (c S) env k := rfl
theorem bindR_ok (a : α) (S : Store) (k : α → M β) : bindR (.ok a S) k = k a S := rfl
theorem bindR_exc (c : Str) (S : Store) (k : α → M β) : bindR (.exc c S) k = .exc c S := rfl
theorem bindR_bad (k : α → M β) : bindR .bad k = .bad := rfl
theorem liftR_ok (a : α) (S : Store) (env : En) (k : α → M Fl) : liftR (.ok a S) env k = k a S := rfl
theorem liftR_exc (c : Str) (S : Store) (env : En) (k : α → M Fl) : liftR (.exc c S) env k = .ok (.ex c env) S := rfl
theorem liftR_bad (env : En) (k : α → M Fl) : liftR .bad env k = .bad := rfl
theorem ret_S (a : α) (S : Store) : M.ret a S = .ok a S := rfl
theorem bad_S (S : Store) : (M.bad : M α) S = .bad := rfl
theorem raise_S (c : Str) (S : Store) : (M.raise c : M α) S = .exc c S := rfl
theorem lift_some_S (a : α) (S : Store) : M.lift (some a) S = .ok a S := rfl
theorem lift_none_S (S : Store) : M.lift (none : Option α) S = .bad := rfl
def quietR (r : R α) : R α := match r with
  | .ok a S' => .ok a S'
  | _ => .bad
theorem quiet_S (c : M α) (S : Store) : quiet c S = quietR (c S) := rfl
theorem quietR_ok (a : α) (S : Store) : quietR (.ok a S) = .ok a S := rfl
theorem quietR_exc (c : Str) (S : Store) : quietR (.exc c S : R α) = .bad := rfl
theorem quietR_bad : quietR (.bad : R α) = .bad := rfl
theorem ite_S (c : Prop) [Decidable c] (x y : M α) (S : Store) : (if c then x else y) S = if c then x S else y S := by split <;> rfl
theorem forD_nil_S (body : En → M Fl) (b : D → En → Option En) (env : En) (S : Store) : forD body b [] env S = .ok (.nx env) S := rfl
theorem forD_cons_S (body : En → M Fl) (b : D → En → Option En) (d : D) (ds : List D) (env : En) (S : Store) : forD body b (d :: ds) env S = (match b d env with
    | none => M.bad
    | some env1 => M.bind (body env1) fun fl => match fl with
      | .nx e => forD body b ds e
      | .ct e => forD body b ds e
      | .bk e => M.ret (.nx e)
      | o => M.ret o) S := rfl
end
theorem eO_S (f : En → M (List D)) (env : En) (S : Store) : eO f env S = (M.bind (f env) fun xs => M.ret (.lst xs) : M D) S := rfl
theorem eVar_S (i : Nat) (env : En) (S : Store) : eVar i env S = (match env[i]? with
    | some (.f d) => M.ret d
    | _ => M.bad : M D) S := rfl
theorem eC_S (d : D) (env : En) (S : Store) : eC d env S = (M.ret d : M D) S := rfl
theorem eVarB_S (i : Nat) (env : En) (S : Store) : eVarB i env S = (match env[i]? with
    | some (.f d) => M.ret d
    | some (.o xs) => M.ret (.lst xs)
    | some (.k xs) => M.ret (.dct xs)
    | _ => M.bad : M D) S := rfl
theorem aNil_S  (env : En) (S : Store) : aNil  env S = (M.ret [] : M (List D)) S := rfl
theorem aCons_S (f : En → M D) (r : En → M (List D)) (env : En) (S : Store) : aCons f r env S = (M.bind (f env) fun d => M.bind (r env) fun ds => M.ret (d :: ds) : M (List D)) S := rfl
theorem eTup_S (a : En → M (List D)) (env : En) (S : Store) : eTup a env S = (M.bind (a env) fun ds => if ds.length ≤ lim then M.ret (.tup ds) else M.bad : M D) S := rfl
theorem eLst_S (a : En → M (List D)) (env : En) (S : Store) : eLst a env S = (M.bind (a env) fun ds => if ds.length ≤ lim then M.ret ds else M.bad : M (List D)) S := rfl
theorem eBin_S (op : D → D → Option D) (a b : En → M D) (env : En) (S : Store) : eBin op a b env S = (M.bind (a env) fun x => M.bind (b env) fun y => M.lift (op x y) : M D) S := rfl
theorem tBin_S (op : D → D → Option Bool) (a b : En → M D) (env : En) (S : Store) : tBin op a b env S = (M.bind (a env) fun x => M.bind (b env) fun y => M.lift (op x y) : M Bool) S := rfl
theorem oCat_S (a b : En → M D) (env : En) (S : Store) : oCat a b env S = (M.bind (a env) fun x => M.bind (b env) fun y => match x, y with
    | .lst xs, .lst ys => if xs.length + ys.length ≤ lim then M.ret (xs ++ ys) else M.bad
    | _, _ => M.bad : M (List D)) S := rfl
theorem tAndD_S (a b : En → M Bool) (env : En) (S : Store) : tAndD a b env S = (M.bind (a env) fun x => if x = true then b env else M.ret false : M Bool) S := rfl
theorem tOrD_S (a b : En → M Bool) (env : En) (S : Store) : tOrD a b env S = (M.bind (a env) fun x => if x = true then M.ret true else b env : M Bool) S := rfl
theorem tNotD_S (a : En → M Bool) (env : En) (S : Store) : tNotD a env S = (M.bind (a env) fun x => M.ret (!x) : M Bool) S := rfl
theorem eAndD_S (a b : En → M D) (env : En) (S : Store) : eAndD a b env S = (M.bind (a env) fun x => match x with
    | .bl k => if k = true then b env else M.ret (.bl false)
    | _ => M.bad : M D) S := rfl
theorem eOrD_S (a b : En → M D) (env : En) (S : Store) : eOrD a b env S = (M.bind (a env) fun x => match x with
    | .bl k => if k = true then M.ret (.bl true) else b env
    | _ => M.bad : M D) S := rfl
theorem eNotD_S (a : En → M D) (env : En) (S : Store) : eNotD a env S = (M.bind (a env) fun x => match x with
    | .bl k => M.ret (.bl (!k))
    | _ => M.bad : M D) S := rfl
theorem eNegD_S (a : En → M D) (env : En) (S : Store) : eNegD a env S = (M.bind (a env) fun x => match x with
    | .int k => M.ret (.int (-k))
    | _ => M.bad : M D) S := rfl
theorem tValD_S (a : En → M D) (env : En) (S : Store) : tValD a env S = (M.bind (a env) fun x => M.lift (truD x) : M Bool) S := rfl
theorem eIfD_S (c : En → M Bool) (a b : En → M D) (env : En) (S : Store) : eIfD c a b env S = (M.bind (c env) fun x => if x = true then a env else b env : M D) S := rfl
theorem oPart_S (o : Option (En → M D)) (env : En) (S : Store) : oPart o env S = (match o with
    | none => fun _ => M.ret none
    | some f => fun env => M.bind (f env) fun x => match x with
      | .int i => M.ret (some i)
      | _ => M.bad) env S := rfl
theorem oSl_S (a : En → M D) (lo hi : En → M (Option Int)) (env : En) (S : Store) : oSl a lo hi env S = (M.bind (a env) fun x => M.bind (lo env) fun l => M.bind (hi env) fun u => match x with
    | .lst xs => M.ret (cutD xs l u)
    | .scr ns => M.ret ((cutI ns l u).map D.int)
    | _ => M.bad : M (List D)) S := rfl
theorem eSl_S (a : En → M D) (lo hi : En → M (Option Int)) (env : En) (S : Store) : eSl a lo hi env S = (M.bind (a env) fun x => M.bind (lo env) fun l => M.bind (hi env) fun u => match x with
    | .str s => if s.length ≤ lim then M.ret (.str (cutS s l u)) else M.bad
    | _ => M.bad : M D) S := rfl
theorem eCall_S (op : List D → Option D) (fs : En → M (List D)) (env : En) (S : Store) : eCall op fs env S = (M.bind (fs env) fun ds => M.lift (op ds) : M D) S := rfl
theorem isiO_S (T : String) (a : En → M D) (env : En) (S : Store) : isiO T a env S = (M.bind (a env) fun x => M.lift ((tyN x).bind fun t => (kitB t T).map D.bl) : M D) S := rfl
theorem sNil_S  (env : En) (S : Store) : sNil  env S = (M.ret (.nx env) : M Fl) S := rfl
theorem sCons_S (f r : En → M Fl) (env : En) (S : Store) : sCons f r env S = (M.bind (f env) fun fl => match fl with
    | .nx env' => r env'
    | o => M.ret o : M Fl) S := rfl
theorem sExpr_S (a : En → M D) (env : En) (S : Store) : sExpr a env S = (liftS (a env) env fun _ => M.ret (.nx env) : M Fl) S := rfl
theorem sRet_S (a : En → M D) (env : En) (S : Store) : sRet a env S = (liftS (a env) env fun d => M.ret (.rt d) : M Fl) S := rfl
theorem sRetO_S (a : En → M (List D)) (env : En) (S : Store) : sRetO a env S = (liftS (a env) env fun d => M.ret (.rtO d) : M Fl) S := rfl
theorem sRetV_S (i : Nat) (env : En) (S : Store) : sRetV i env S = (match env[i]? with
    | some (.f d) => M.ret (.rt d)
    | some (.o xs) => M.ret (.rtO xs)
    | _ => M.bad : M Fl) S := rfl
theorem sRetN_S  (env : En) (S : Store) : sRetN  env S = (M.ret (.rt .non) : M Fl) S := rfl
theorem sIf_S (c : En → M Bool) (t u : En → M Fl) (env : En) (S : Store) : sIf c t u env S = (liftS (c env) env fun b => if b = true then t env else u env : M Fl) S := rfl
theorem sBrk_S  (env : En) (S : Store) : sBrk  env S = (M.ret (.bk env) : M Fl) S := rfl
theorem sCnt_S  (env : En) (S : Store) : sCnt  env S = (M.ret (.ct env) : M Fl) S := rfl
theorem sSet_S (i : Nat) (a : En → M D) (env : En) (S : Store) : sSet i a env S = (liftS (a env) env fun d => M.ret (.nx (env.set i (.f d))) : M Fl) S := rfl
theorem sSetO_S (i : Nat) (a : En → M (List D)) (env : En) (S : Store) : sSetO i a env S = (liftS (a env) env fun d => M.ret (.nx (env.set i (.o d))) : M Fl) S := rfl
theorem sFz_S (i : Nat) (f : En → M Fl) (env : En) (S : Store) : sFz i f env S = (f (fzE i env) : M Fl) S := rfl
theorem iL_S (a : En → M D) (env : En) (S : Store) : iL a env S = (M.bind (a env) fun x => match x with
    | .lst xs => M.ret xs
    | .scr ns => M.ret (ns.map D.int)
    | _ => M.bad : M (List D)) S := rfl
theorem iT_S (a : En → M D) (env : En) (S : Store) : iT a env S = (M.bind (a env) fun x => match x with
    | .tup xs => M.ret xs
    | _ => M.bad : M (List D)) S := rfl
theorem iS_S (a : En → M D) (env : En) (S : Store) : iS a env S = (M.bind (a env) fun x => match x with
    | .str s => M.ret (signsD s)
    | _ => M.bad : M (List D)) S := rfl
theorem iR1_S (a : En → M D) (env : En) (S : Store) : iR1 a env S = (M.bind (a env) fun x => match x with
    | .int n => if -1000000 ≤ n ∧ n ≤ 1000000 then M.ret (rng 0 n.toNat) else M.bad
    | _ => M.bad : M (List D)) S := rfl
theorem iR2_S (a b : En → M D) (env : En) (S : Store) : iR2 a b env S = (M.bind (a env) fun x => M.bind (b env) fun y => match x, y with
    | .int i, .int j => if -1000000 ≤ i ∧ i ≤ 1000000 ∧ -1000000 ≤ j ∧ j ≤ 1000000 then M.ret (rng i (j - i).toNat) else M.bad
    | _, _ => M.bad : M (List D)) S := rfl
theorem iR3_S (a b c : En → M D) (env : En) (S : Store) : iR3 a b c env S = (M.bind (a env) fun x => M.bind (b env) fun y => M.bind (c env) fun z => match x, y, z with
    | .int i, .int j, .int k => if k ≠ 0 ∧ k.natAbs < 1073741824 ∧ Builtin.Range.small i j k = true ∧ 0 ≤ Builtin.Range.rangeSize i j k then M.ret (rngC i k (Builtin.Range.rangeSize i j k).toNat) else M.bad
    | _, _, _ => M.bad : M (List D)) S := rfl
theorem sFor_S (it : En → M (List D)) (b : D → En → Option En) (body : En → M Fl) (env : En) (S : Store) : sFor it b body env S = (liftS (it env) env fun ds => forD body b ds env : M Fl) S := rfl
theorem oLc_S (it : En → M (List D)) (b : D → En → Option En) (t : En → M Bool) (elt : En → M D) (vs : List Nat) (env : En) (S : Store) : oLc it b t elt vs env S = (M.bind (it env) fun ds => lcD b t elt (wipeE env vs) ds [] : M (List D)) S := rfl
theorem tYesD_S  (env : En) (S : Store) : tYesD  env S = (M.ret true : M Bool) S := rfl
theorem onO_S (i : Nat) (k : En → List D → M Fl) (env : En) (S : Store) : onO i k env S = (match env[i]? with
    | some (.o xs) => k env xs
    | _ => M.bad : M Fl) S := rfl
theorem sApp_S (i : Nat) (a : En → M D) (env : En) (S : Store) : sApp i a env S = (onO i fun env xs => liftS (a env) env fun d => if xs.length < lim then M.ret (.nx (env.set i (.o (xs ++ [d])))) else M.bad) env S := rfl
theorem sExt_S (i : Nat) (a : En → M D) (env : En) (S : Store) : sExt i a env S = (onO i fun env xs => liftS (a env) env fun d => match d with
    | .lst ys => if xs.length + ys.length ≤ lim then M.ret (.nx (env.set i (.o (xs ++ ys)))) else M.bad
    | _ => M.bad) env S := rfl
theorem sSetI_S (i : Nat) (j a : En → M D) (env : En) (S : Store) : sSetI i j a env S = (onO i fun env xs => liftS (a env) env fun d => liftS (j env) env fun k => match k with
    | .int n => match ixN xs.length n with
      | some p => M.ret (.nx (env.set i (.o (xs.set p d))))
      | none => M.bad
    | _ => M.bad) env S := rfl
theorem eFn_S (f : Fn) (a : En → M (List D)) (env : En) (S : Store) : eFn f a env S = (M.bind (a env) fun ds => M.bind (f ds) fun r => M.ret r.d : M D) S := rfl
theorem oFn_S (f : Fn) (a : En → M (List D)) (env : En) (S : Store) : oFn f a env S = (M.bind (a env) fun ds => M.bind (f ds) fun r => match r with
    | .o xs => M.ret xs
    | .f _ => M.bad : M (List D)) S := rfl
theorem eM1_S (op : Str → D → Option D) (a b : En → M D) (env : En) (S : Store) : eM1 op a b env S = (M.bind (a env) fun x => match x with
    | .str s => M.bind (b env) fun y => M.lift (op s y)
    | _ => M.bad : M D) S := rfl
theorem oSplit_S (a b : En → M D) (env : En) (S : Store) : oSplit a b env S = (M.bind (a env) fun x => match x with
    | .str s => M.bind (b env) fun y => match y with
      | .str t => if t.length ≠ 0 ∧ s.length + 2 ≤ lim then M.ret ((Txt.split s t).map D.str) else M.bad
      | _ => M.bad
    | _ => M.bad : M (List D)) S := rfl
theorem eSlA_S (a : En → M D) (lo hi : En → M (Option Int)) (env : En) (S : Store) : eSlA a lo hi env S = (M.bind (a env) fun x => M.bind (lo env) fun l => M.bind (hi env) fun u => match x with
    | .lst xs => M.ret (.lst (cutD xs l u))
    | .scr ns => M.ret (.lst ((cutI ns l u).map D.int))
    | .str s => if s.length ≤ lim then M.ret (.str (cutS s l u)) else M.bad
    | _ => M.bad : M D) S := rfl
theorem oListF_S (a : En → M D) (env : En) (S : Store) : oListF a env S = (M.bind (a env) fun x => match x with
    | .lst xs => M.ret xs
    | .tup xs => M.ret xs
    | _ => M.bad : M (List D)) S := rfl
theorem eTupF_S (a : En → M D) (env : En) (S : Store) : eTupF a env S = (M.bind (a env) fun x => match x with
    | .lst xs => M.ret (.tup xs)
    | .tup xs => M.ret (.tup xs)
    | _ => M.bad : M D) S := rfl
theorem eIndex_S (a b : En → M D) (env : En) (S : Store) : eIndex a b env S = (M.bind (a env) fun x => match x with
    | .lst xs => M.bind (b env) fun y => if flatD y = true ∧ xs.all flatD = true then M.lift ((findF y xs).map fun j => .int (j : Nat)) else M.bad
    | _ => M.bad : M D) S := rfl
theorem iA_S (a : En → M D) (env : En) (S : Store) : iA a env S = (M.bind (a env) fun x => match x with
    | .lst xs => M.ret xs
    | .scr ns => M.ret (ns.map D.int)
    | .tup xs => M.ret xs
    | .str s => M.ret (signsD s)
    | _ => M.bad : M (List D)) S := rfl
theorem sThenFz_S (i : Nat) (f : En → M Fl) (env : En) (S : Store) : sThenFz i f env S = (M.bind (f env) fun fl => match fl with
    | .nx env' => M.ret (.nx (fzE i env'))
    | o => M.ret o : M Fl) S := rfl
theorem sUnp_S (a : En → M D) (b : D → En → Option En) (env : En) (S : Store) : sUnp a b env S = (liftS (a env) env fun d => match b d env with
    | some env' => M.ret (.nx env')
    | none => M.bad : M Fl) S := rfl
theorem eFld_S (C f : Str) (fo : En → M D) (env : En) (S : Store) : eFld C f fo env S = (M.bind (fo env) fun x => objF C x fun n ob => fvD (ob.fs.lookup f) : M D) S := rfl
theorem eFldD_S (C f : Str) (fo : En → M D) (env : En) (S : Store) : eFldD C f fo env S = (M.bind (fo env) fun x => objF C x fun n ob => fvE (ob.fs.lookup f) : M D) S := rfl
theorem sFldD_S (C f : Str) (fo fa : En → M D) (env : En) (S : Store) : sFldD C f fo fa env S = (liftS (fa env) env fun d => liftS (fo env) env fun x => objF C x fun n ob => if ob.fs.length < 1000 then fun S => .ok (.nx env) (S.set n ⟨ob.cls, putW f (.f d) ob.fs⟩) else M.bad : M Fl) S := rfl
theorem sFldO_S (C f : Str) (fo : En → M D) (fa : En → M (List D)) (env : En) (S : Store) : sFldO C f fo fa env S = (liftS (fa env) env fun d => liftS (fo env) env fun x => objF C x fun n ob => if ob.fs.length < 1000 then fun S => .ok (.nx env) (S.set n ⟨ob.cls, putW f (.o d) ob.fs⟩) else M.bad : M Fl) S := rfl
theorem sFldK_S (C f : Str) (fo : En → M D) (fa : En → M (List (Key × D))) (env : En) (S : Store) : sFldK C f fo fa env S = (liftS (fa env) env fun d => liftS (fo env) env fun x => objF C x fun n ob => if ob.fs.length < 1000 then fun S => .ok (.nx env) (S.set n ⟨ob.cls, putW f (.k d) ob.fs⟩) else M.bad : M Fl) S := rfl
theorem sFldApp_S (C f : Str) (fo fa : En → M D) (env : En) (S : Store) : sFldApp C f fo fa env S = (liftS (fo env) env fun x => fldO C f x fun n _ _ => liftS (fa env) env fun d => fldO C f (.obj n) fun n ob xs => if xs.length < lim then setB n ⟨ob.cls, putW f (.o (xs ++ [d])) ob.fs⟩ (.nx env) else M.bad : M Fl) S := rfl
theorem eFldPop_S (C f : Str) (fo fi : En → M D) (env : En) (S : Store) : eFldPop C f fo fi env S = (M.bind (fo env) fun x => fldO C f x fun n _ _ => M.bind (fi env) fun i => fldO C f (.obj n) fun n ob xs => match i with
    | .int k => match ixN xs.length k with
      | some j => match xs[j]? with
        | some d => if xs.length ≤ lim then setB n ⟨ob.cls, putW f (.o (xs.eraseIdx j)) ob.fs⟩ d else M.bad
        | none => M.bad
      | none => M.bad
    | _ => M.bad : M D) S := rfl
theorem sFldSetI_S (C f : Str) (fo fi fa : En → M D) (env : En) (S : Store) : sFldSetI C f fo fi fa env S = (liftS (fa env) env fun d => liftS (fo env) env fun x => fldO C f x fun n _ _ => liftS (fi env) env fun i => fldO C f (.obj n) fun n ob xs => match i with
    | .int k => match ixN xs.length k with
      | some j => setB n ⟨ob.cls, putW f (.o (xs.set j d)) ob.fs⟩ (.nx env)
      | none => M.bad
    | _ => M.bad : M Fl) S := rfl
theorem sFldRot_S (C f : Str) (fo fi : En → M D) (env : En) (S : Store) : sFldRot C f fo fi env S = (liftS (fo env) env fun x => fldO C f x fun n _ _ => liftS (eFldPop C f fo fi env) env fun d => fldO C f (.obj n) fun n ob xs => if xs.length < lim then setB n ⟨ob.cls, putW f (.o (xs ++ [d])) ob.fs⟩ (.nx env) else M.bad : M Fl) S := rfl
theorem eMt_S (C mt : Str) (fo : En → M D) (f : Fn) (fs : En → M (List D)) (env : En) (S : Store) : eMt C mt fo f fs env S = (M.bind (fo env) fun x => objF C x fun _ ob => if (ob.fs.lookup mt).isNone = true then M.bind (fs env) fun ds => M.bind (f (x :: ds)) fun r => M.ret r.d else M.bad : M D) S := rfl
theorem oMt_S (C mt : Str) (fo : En → M D) (f : Fn) (fs : En → M (List D)) (env : En) (S : Store) : oMt C mt fo f fs env S = (M.bind (fo env) fun x => objF C x fun _ ob => if (ob.fs.lookup mt).isNone = true then M.bind (fs env) fun ds => M.bind (f (x :: ds)) fun r => match r with
      | .o xs => M.ret xs
      | .f _ => M.bad
    else M.bad : M (List D)) S := rfl
theorem eMk_S (C : Str) (f : Fn) (fs : En → M (List D)) (env : En) (S : Store) : eMk C f fs env S = (M.bind (fs env) fun ds => mkO C f ds : M D) S := rfl
theorem sRaise_S (c : Str) (env : En) (S : Store) : sRaise c env S = (M.ret (.ex c env) : M Fl) S := rfl
theorem sTry_S (isa : Str → Option Bool) (fb fs : En → M Fl) (env : En) (S : Store) : sTry isa fb fs env S = (M.bind (fb env) fun fl => match fl with
    | .ex c env' => match isa c with
      | some true => noEx (fs env')
      | some false => M.ret (.ex c env')
      | none => M.bad
    | o => M.ret o : M Fl) S := rfl
theorem sTryAs_S (i : Nat) (isa : Str → Option Bool) (fb : En → M Fl) (fs : Addr → Str → En → M Fl) (env : En) (S : Store) : sTryAs i isa fb fs env S = (M.bind (fb env) fun fl => match fl with
    | .ex c env' => match isa c with
      | some true => fun S => anyA fun a => dropS i (noEx (fs a c (env'.set i (.x a)))) S
      | some false => M.ret (.ex c env')
      | none => M.bad
    | o => M.ret o : M Fl) S := rfl
theorem eIsE_S (i : Nat) (a : Addr) (o : Option Bool) (env : En) (S : Store) : eIsE i a o env S = (match env[i]? with
    | some (.x a') => if a' = a then M.lift (o.map D.bl) else M.bad
    | _ => M.bad : M D) S := rfl
theorem eFnX_S (i : Nat) (a : Addr) (r : M Res) (env : En) (S : Store) : eFnX i a r env S = (match env[i]? with
    | some (.x a') => if a' = a then M.bind (quiet r) fun z => M.ret z.d else M.bad
    | _ => M.bad : M D) S := rfl
theorem iFld_S (C f : Str) (fo : En → M D) (env : En) (S : Store) : iFld C f fo env S = (M.bind (fo env) fun x => fldO C f x fun _ _ xs => M.ret xs : M (List D)) S := rfl
theorem kNil_S  (env : En) (S : Store) : kNil  env S = (M.ret [] : M (List (Key × D))) S := rfl
theorem eNewL_S (f : En → M (List D)) (env : En) (S : Store) : eNewL f env S = (M.bind (f env) fun xs => fun S => .ok (.obj S.length) (S ++ [rL xs]) : M D) S := rfl
theorem eNewK_S (f : En → M (List (Key × D))) (env : En) (S : Store) : eNewK f env S = (M.bind (f env) fun xs => fun S => .ok (.obj S.length) (S ++ [rK xs]) : M D) S := rfl
theorem eRd_S (fo : En → M D) (env : En) (S : Store) : eRd fo env S = (M.bind (fo env) rawV : M D) S := rfl
theorem eGet1_S (fa fb : En → M D) (env : En) (S : Store) : eGet1 fa fb env S = (M.bind (fa env) fun x => match x with
    | .dct kvs => M.bind (fb env) fun y => M.lift (getN kvs y)
    | _ => M.bad : M D) S := rfl
theorem eGet2_S (fa fb fc : En → M D) (env : En) (S : Store) : eGet2 fa fb fc env S = (M.bind (fa env) fun x => match x with
    | .dct kvs => M.bind (fb env) fun y => M.bind (fc env) fun z => match keyD y with
      | some k => M.ret ((getK kvs k).getD z)
      | none => M.bad
    | _ => M.bad : M D) S := rfl
theorem sRPut_S (fo fk fa : En → M D) (env : En) (S : Store) : sRPut fo fk fa env S = (liftS (fa env) env fun v => liftS (fo env) env fun x => liftS (fk env) env fun y => onK x fun n kvs => match keyD y with
    | some k => if kvs.length < lim then setB n (rK (putD kvs k v)) (.nx env) else M.bad
    | none => M.bad : M Fl) S := rfl
theorem eRPop_S (fo fk : En → M D) (env : En) (S : Store) : eRPop fo fk env S = (M.bind (fo env) fun x => onK x fun _ _ => M.bind (fk env) fun y => onK x fun n kvs => match keyD y with
    | some k => match getK kvs k with
      | some d => setB n (rK (dropD kvs k)) d
      | none => M.bad
    | none => M.bad : M D) S := rfl
theorem sRApp_S (fo fa : En → M D) (env : En) (S : Store) : sRApp fo fa env S = (liftS (fo env) env fun x => onL x fun _ _ => liftS (fa env) env fun d => onL x fun n xs => if xs.length < lim then setB n (rL (xs ++ [d])) (.nx env) else M.bad : M Fl) S := rfl
theorem eRPopL_S (fo fi : En → M D) (env : En) (S : Store) : eRPopL fo fi env S = (M.bind (fo env) fun x => onL x fun _ _ => M.bind (fi env) fun i => onL x fun n xs => match i with
    | .int k => match ixN xs.length k with
      | some j => match xs[j]? with
        | some d => if xs.length ≤ lim then setB n (rL (xs.eraseIdx j)) d else M.bad
        | none => M.bad
      | none => M.bad
    | _ => M.bad : M D) S := rfl
theorem sRSetI_S (fo fi fa : En → M D) (env : En) (S : Store) : sRSetI fo fi fa env S = (liftS (fa env) env fun d => liftS (fo env) env fun x => liftS (fi env) env fun i => onL x fun n xs => match i with
    | .int k => match ixN xs.length k with
      | some j => setB n (rL (xs.set j d)) (.nx env)
      | none => M.bad
    | _ => M.bad : M Fl) S := rfl
theorem eK_S (f : En → M (List (Key × D))) (env : En) (S : Store) : eK f env S = (M.bind (f env) fun xs => M.ret (.dct xs) : M D) S := rfl
theorem sForR_S (n : Nat) (fo : En → M D) (b : D → En → Option En) (body : En → M Fl) (env : En) (S : Store) : sForR n fo b body env S = (liftS (fo env) env fun x => onL x fun _ _ => forR body b x n 0 env : M Fl) S := rfl
theorem pNil_S  (env : En) (S : Store) : pNil  env S = (M.ret [] : M (List (Key × D))) S := rfl
theorem pCons_S (k : En → M D) (f : En → M D) (r : En → M (List (Key × D))) (env : En) (S : Store) : pCons k f r env S = (M.bind (k env) fun y => M.bind (f env) fun d => M.bind (r env) fun ds => match keyD y with
    | some q => M.ret ((q, d) :: ds)
    | none => M.bad : M (List (Key × D))) S := rfl
theorem kDisp_S (f : En → M (List (Key × D))) (env : En) (S : Store) : kDisp f env S = (M.bind (f env) fun kvs => if kvs.length ≤ 15 then M.ret (mergeD [] kvs) else M.bad : M (List (Key × D))) S := rfl
theorem sPar2_S (i j : Nat) (a : En → M (List D)) (env : En) (S : Store) : sPar2 i j a env S = (liftS (a env) env fun ds => match ds with
    | [x, y] => M.ret (.nx ((env.set i (.f x)).set j (.f y)))
    | _ => M.bad : M Fl) S := rfl
theorem sPar3_S (i j l : Nat) (a : En → M (List D)) (env : En) (S : Store) : sPar3 i j l a env S = (liftS (a env) env fun ds => match ds with
    | [x, y, z] => M.ret (.nx (((env.set i (.f x)).set j (.f y)).set l (.f z)))
    | _ => M.bad : M Fl) S := rfl
theorem sRem_S (i : Nat) (a : En → M D) (env : En) (S : Store) : sRem i a env S = (onO i fun env xs => liftS (a env) env fun d => if shpD d = true ∧ shpD (.lst xs) = true then (match findP (toPy d) (toPyA xs) with
    | some j => M.ret (.nx (env.set i (.o (xs.eraseIdx j))))
    | none => M.bad) else M.bad) env S := rfl
theorem sClr_S (i : Nat) (env : En) (S : Store) : sClr i env S = (onO i fun env xs => M.ret (.nx (env.set i (.o [])))) env S := rfl
theorem iRv_S (a : En → M D) (env : En) (S : Store) : iRv a env S = (M.bind (a env) fun x => match x with
    | .lst xs => M.ret xs.reverse
    | _ => M.bad : M (List D)) S := rfl
theorem eMaxD_S (fa fc : En → M D) (env : En) (S : Store) : eMaxD fa fc env S = (M.bind (fa env) fun x => M.bind (fc env) fun y => match x with
    | .lst xs => M.lift ((intsD xs).map fun ns => match greatest ns with
      | some z => .int z
      | none => y)
    | _ => M.bad : M D) S := rfl
theorem oSortP_S (fa : En → M D) (env : En) (S : Store) : oSortP fa env S = (M.bind (fa env) fun x => match x with
    | .lst xs => M.lift ((prsD xs).map fun ps => (sortP ps).map prE)
    | _ => M.bad : M (List D)) S := rfl
theorem eUp_S (fa : En → M D) (env : En) (S : Store) : eUp fa env S = (M.bind (fa env) fun x => match x with
    | .str s => if s.length ≤ lim then M.ret (.str (Txt.upper s)) else M.bad
    | _ => M.bad : M D) S := rfl
theorem sRClr_S (fo : En → M D) (env : En) (S : Store) : sRClr fo env S = (liftS (fo env) env fun x => onL x fun n _ => setB n (rL []) (.nx env) : M Fl) S := rfl
theorem sRRem_S (fo fa : En → M D) (env : En) (S : Store) : sRRem fo fa env S = (liftS (fo env) env fun x => onL x fun _ _ => liftS (fa env) env fun d => onL x fun n xs => if shpD d = true ∧ shpD (.lst xs) = true then (match findP (toPy d) (toPyA xs) with
    | some j => setB n (rL (xs.eraseIdx j)) (.nx env)
    | none => M.bad) else M.bad : M Fl) S := rfl
theorem iKy_S (fo : En → M D) (env : En) (S : Store) : iKy fo env S = (M.bind (fo env) fun x => onF x fun kvs => M.ret (kvs.map fun kv => keyV kv.1) : M (List D)) S := rfl
theorem eIxF_S (fo fi : En → M D) (env : En) (S : Store) : eIxF fo fi env S = (M.bind (fo env) fun x => M.bind (fi env) fun y => onF x fun kvs => M.lift ((keyD y).bind (getK kvs)) : M D) S := rfl
theorem tEqE_S (fa : En → M D) (env : En) (S : Store) : tEqE fa env S = (M.bind (fa env) fun x => onK x fun _ kvs => M.ret kvs.isEmpty : M Bool) S := rfl
theorem kCpy_S (fa : En → M D) (env : En) (S : Store) : kCpy fa env S = (M.bind (fa env) fun x => match x with
    | .dct kvs => M.ret kvs
    | _ => M.bad : M (List (Key × D))) S := rfl
theorem oKeysF_S (fa : En → M D) (env : En) (S : Store) : oKeysF fa env S = (M.bind (fa env) fun x => match x with
    | .dct kvs => M.ret (kvs.map fun kv => keyV kv.1)
    | _ => M.bad : M (List D)) S := rfl
theorem kCpyK_S (fa : En → M D) (env : En) (S : Store) : kCpyK fa env S = (M.bind (fa env) fun x => onK x fun _ kvs => M.ret kvs : M (List (Key × D))) S := rfl
theorem eEqKK_S (fa fb : En → M D) (env : En) (S : Store) : eEqKK fa fb env S = (M.bind (fa env) fun x => M.bind (fb env) fun y => onK x fun _ kvs => onK y fun _ ls => M.lift ((eqKK kvs ls).map D.bl) : M D) S := rfl
theorem oValsK_S (fa : En → M D) (env : En) (S : Store) : oValsK fa env S = (M.bind (fa env) fun x => onK x fun _ kvs => M.ret (kvs.map (·.2)) : M (List D)) S := rfl
theorem eIxK_S (fo fi : En → M D) (env : En) (S : Store) : eIxK fo fi env S = (M.bind (fo env) fun x => M.bind (fi env) fun y => onK x fun _ kvs => M.lift ((keyD y).bind (getK kvs)) : M D) S := rfl
theorem eNeKK_S (fa fb : En → M D) (env : En) (S : Store) : eNeKK fa fb env S = (M.bind (fa env) fun x => M.bind (fb env) fun y => onK x fun _ kvs => onK y fun _ ls => M.lift ((eqKK kvs ls).map fun b => D.bl (!b)) : M D) S := rfl
theorem tEqKK_S (fa fb : En → M D) (env : En) (S : Store) : tEqKK fa fb env S = (M.bind (fa env) fun x => M.bind (fb env) fun y => onK x fun _ kvs => onK y fun _ ls => M.lift (eqKK kvs ls) : M Bool) S := rfl
theorem tNeKK_S (fa fb : En → M D) (env : En) (S : Store) : tNeKK fa fb env S = (M.bind (fa env) fun x => M.bind (fb env) fun y => onK x fun _ kvs => onK y fun _ ls => M.lift ((eqKK kvs ls).map fun b => !b) : M Bool) S := rfl
theorem kPairs_S (fa : En → M D) (env : En) (S : Store) : kPairs fa env S = (M.bind (fa env) fun x => match x with
    | .lst ds => M.bind (M.lift (prsK ds)) fun kvs => M.ret (mergeD [] kvs)
    | _ => M.bad : M (List (Key × D))) S := rfl
theorem eLenS_S (fa : En → M D) (env : En) (S : Store) : eLenS fa env S = (M.bind (fa env) fun x => match x with
    | .lst ds => M.bind (M.lift (strsD ds)) fun xs => if xs.length ≤ 4000 then M.ret (.int (Tst.unlike xs xs.length : Nat)) else M.bad
    | _ => M.bad : M D) S := rfl
theorem iRdL_S (fo : En → M D) (env : En) (S : Store) : iRdL fo env S = (M.bind (fo env) fun x => match x with
    | .lst xs => M.ret xs
    | .obj n => onL (.obj n) fun _ xs => M.ret xs
    | _ => M.bad : M (List D)) S := rfl
theorem tNeX_S (fa fb : En → M D) (env : En) (S : Store) : tNeX fa fb env S = (M.bind (fa env) fun x => M.bind (fb env) fun y => opS neD x y : M Bool) S := rfl
theorem eEqX_S (fa fb : En → M D) (env : En) (S : Store) : eEqX fa fb env S = (M.bind (fa env) fun x => M.bind (fb env) fun y => M.bind (opS eqD x y) fun b => M.ret (.bl b) : M D) S := rfl
theorem oSortT_S (fa : En → M D) (env : En) (S : Store) : oSortT fa env S = (M.bind (fa env) fun x => match x with
    | .lst xs => M.lift ((tris xs).bind fun ps => if unT ps = true then some ((sortT ps).map triE) else none)
    | _ => M.bad : M (List D)) S := rfl
theorem oRep_S (a b : En → M D) (env : En) (S : Store) : oRep a b env S = (M.bind (a env) fun x => M.bind (b env) fun y => match x, y with
    | .lst xs, .int n => if 0 ≤ n ∧ n ≤ 1000 ∧ xs.length ≤ 1000 then M.ret (List.replicate n.toNat xs).flatten else M.bad
    | _, _ => M.bad : M (List D)) S := rfl
theorem objF_S {α : Type} (C : Str) (n : Nat) (k : Nat → Ob → M α) (S : Store) : objF C (.obj n) k S = (match S[n]? with
    | some ob => if ob.cls = C then k n ob S else .bad
    | none => .bad) := rfl
theorem fldO_S {α : Type} (C f : Str) (x : D) (k : Nat → Ob → List D → M α) (S : Store) : fldO C f x k S = objF C x (fun n ob => match ob.fs.lookup f with
    | some (.o xs) => k n ob xs
    | _ => M.bad) S := rfl
theorem setB_S {α : Type} (n : Nat) (ob : Ob) (a : α) (S : Store) : setB n ob a S = .ok a (S.set n ob) := rfl
theorem mkO_S (C : Str) (f : Fn) (ds : List D) (S : Store) : mkO C f ds S = bindR (f (.obj S.length :: ds) (S ++ [⟨C, []⟩])) (fun r => match r with
  | .f .non => M.ret (.obj S.length)
  | _ => M.bad) := rfl
theorem noEx_S (c : M Fl) (S : Store) : noEx c S = bindR (c S) (fun fl => match fl with
  | .ex _ _ => M.bad
  | o => M.ret o) := rfl
theorem dropS_S (i : Nat) (c : M Fl) (S : Store) : dropS i c S = bindR (c S) (fun fl => match fl with
  | .nx env => M.ret (.nx (env.set i .u))
  | .bk env => M.ret (.bk (env.set i .u))
  | .ct env => M.ret (.ct (env.set i .u))
  | o => M.ret o) := rfl
theorem fnX_S (n : Nat) (dn : Addr → Str → En → M Fl) (a : Addr) (c : Str) (S : Store) : fnX n dn a c S = (M.bind (quiet (dn a c (.x a :: List.replicate (n - 1) .u))) fun fl => match fl with
  | .nx _ => M.ret (.f .non)
  | .rt d => M.ret (.f d)
  | .rtO xs => M.ret (.o xs)
  | _ => M.bad : M Res) S := rfl
theorem fnD_S (n : Nat) (body : En → M Fl) (ds : List D) (S : Store) : fnD n body ds S = (M.bind (quiet (body (initE n ds))) fun fl => match fl with
  | .nx _ => M.ret (.f .non)
  | .rt d => M.ret (.f d)
  | .rtO xs => M.ret (.o xs)
  | .ex c _ => M.raise c
  | _ => M.bad) S := rfl
end Dn

namespace Dn
open PySem L2 PyProof.Rows
/-! ### loops and comprehensions, with the store applied -/
theorem lcD_test {α : Type} {b : D → En → Option En} {t : En → M Bool} {elt : En → M D} {env : En} {S : Store} (enc : α → D) (p : α → Bool) (f : α → D) : ∀ (xs : List α) (acc : List D),
    (∀ x ∈ xs, ∃ env1, b (enc x) env = some env1 ∧ t env1 S = .ok (p x) S ∧ (p x = true → elt env1 S = .ok (f x) S)) → acc.length + xs.length ≤ lim → lcD b t elt env (xs.map enc) acc S = .ok (acc ++ (xs.filter p).map f) S
  | [], acc, _, _ => by simp [lcD, M.ret]
  | x :: xs, acc, h, hl => by
    obtain ⟨env1, h1, h2, h3⟩ := h x List.mem_cons_self
    have hl' : acc.length + (xs.length + 1) ≤ lim := by simpa using hl
    rw [List.map_cons]
    unfold lcD
    rw [h1]
    show M.bind _ _ S = _
    rw [bind_ok (quiet_ok h2)]
    cases e : p x with
    | false =>
      rw [if_neg (by simp), lcD_test enc p f xs acc (fun d hd => h d (List.mem_cons_of_mem _ hd)) (by omega), List.filter_cons, if_neg (by rw [e]; simp)]
    | true =>
      rw [if_pos rfl, bind_ok (quiet_ok (h3 e))]
      rw [if_pos (show acc.length < lim by omega), lcD_test enc p f xs (acc ++ [f x]) (fun d hd => h d (List.mem_cons_of_mem _ hd)) (by simp; omega), List.filter_cons, if_pos e]
      simp
theorem lcD_all {α : Type} {b : D → En → Option En} {elt : En → M D} {env : En} {S : Store} (xs : List α) (enc : α → D) (f : α → D) (hl : xs.length ≤ lim) (h : ∀ x ∈ xs, ∃ env1, b (enc x) env = some env1 ∧ elt env1 S = .ok (f x) S) : lcD b tYesD elt env (xs.map enc) [] S = .ok (xs.map f) S := by
  rw [lcD_test enc (fun _ => true) f xs [] (fun x hx => by
    obtain ⟨e, h1, h2⟩ := h x hx
    exact ⟨e, h1, rfl, fun _ => h2⟩) (by simpa using hl), List.filter_eq_self.mpr (fun _ _ => rfl)]
  rfl
theorem lcD_flt {α : Type} {b : D → En → Option En} {t : En → M Bool} {elt : En → M D} {env : En} {S : Store} (xs : List α) (enc : α → D) (p : α → Bool) (f : α → D) (hl : xs.length ≤ lim) (h : ∀ x ∈ xs, ∃ env1, b (enc x) env = some env1 ∧ t env1 S = .ok (p x) S ∧ (p x = true → elt env1 S = .ok (f x) S)) : lcD b t elt env (xs.map enc) [] S = .ok ((xs.filter p).map f) S := by
  rw [lcD_test enc p f xs [] h (by simpa using hl)]
  simp
/-- a loop with what stays true of slots and store; it may leave with an answer -/
theorem forD_inv {α : Type} {body : En → M Fl} {b : D → En → Option En} (enc : α → D) (I : List α → En → Store → Prop) (Post : Fl → Store → Prop)
    (hd : ∀ env S, I [] env S → Post (.nx env) S)
    (hs : ∀ x xs env S, I (x :: xs) env S → ∃ env1, b (enc x) env = some env1 ∧ ∃ fl S', body env1 S = .ok fl S' ∧ match fl with
      | .nx e => I xs e S'
      | .ct e => I xs e S'
      | .bk e => Post (.nx e) S'
      | o => Post o S') : ∀ xs env S, I xs env S → ∃ fl S', forD body b (xs.map enc) env S = .ok fl S' ∧ Post fl S'
  | [], env, S, h => ⟨_, _, rfl, hd env S h⟩
  | x :: xs, env, S, h => by
    obtain ⟨env1, h1, fl, S', h2, h3⟩ := hs x xs env S h
    rw [List.map_cons]
    unfold forD
    rw [h1]
    show ∃ fl S', M.bind _ _ S = _ ∧ _
    rw [bind_ok h2]
    cases fl with
    | nx e => exact forD_inv enc I Post hd hs xs e S' h3
    | ct e => exact forD_inv enc I Post hd hs xs e S' h3
    | bk e => exact ⟨_, _, rfl, h3⟩
    | rt d => exact ⟨_, _, rfl, h3⟩
    | rtO d => exact ⟨_, _, rfl, h3⟩
    | ex c e => exact ⟨_, _, rfl, h3⟩
/-- a loop that folds over known states -/
theorem forD_foldS {α σ : Type} {body : En → M Fl} {b : D → En → Option En} (enc : α → D) (ev : σ → En) (st : σ → Store) (step : σ → α → σ) (xs : List α)
    (h : ∀ s, ∀ x ∈ xs, ∃ env1, b (enc x) (ev s) = some env1 ∧ (body env1 (st s) = .ok (.nx (ev (step s x))) (st (step s x)) ∨ body env1 (st s) = .ok (.ct (ev (step s x))) (st (step s x)))) :
    ∀ s, forD body b (xs.map enc) (ev s) (st s) = .ok (.nx (ev (xs.foldl step s))) (st (xs.foldl step s)) := by
  induction xs with
  | nil => intro s; rfl
  | cons x xs ih =>
    intro s
    obtain ⟨e, h1, h2⟩ := h s x List.mem_cons_self
    rw [List.map_cons]
    unfold forD
    rw [h1]
    show M.bind (body e) _ _ = _
    rcases h2 with h2 | h2
    · rw [bind_ok h2]
      exact ih (fun s y hy => h s y (List.mem_cons_of_mem _ hy)) _
    · rw [bind_ok h2]
      exact ih (fun s y hy => h s y (List.mem_cons_of_mem _ hy)) _
/-- a search: the loop leaves with the answer, or goes through -/
theorem forD_seek {α : Type} {body : En → M Fl} {b : D → En → Option En} {S : Store} (enc : α → D) (hit : α → Option D) (I : En → Prop) (xs : List α) (env : En) (i : I env) (h : ∀ env, I env → ∀ x ∈ xs, ∃ env1, b (enc x) env = some env1 ∧ match hit x with
      | some d => body env1 S = .ok (.rt d) S
      | none => ∃ env2, (body env1 S = .ok (.nx env2) S ∨ body env1 S = .ok (.ct env2) S) ∧ I env2) :
    match xs.findSome? hit with
    | some d => forD body b (xs.map enc) env S = .ok (.rt d) S
    | none => ∃ env', I env' ∧ forD body b (xs.map enc) env S = .ok (.nx env') S := by
  induction xs generalizing env with
  | nil => exact ⟨env, i, rfl⟩
  | cons x xs ih =>
    obtain ⟨e, h1, h2⟩ := h env i x List.mem_cons_self
    rw [List.map_cons]
    unfold forD
    rw [h1]
    cases hx : hit x with
    | some d =>
      rw [hx] at h2
      rw [List.findSome?_cons, hx]
      show M.bind (body e) _ S = _
      rw [bind_ok h2]
      rfl
    | none =>
      rw [hx] at h2
      obtain ⟨env2, h3, h4⟩ := h2
      rw [List.findSome?_cons, hx]
      have ih := ih env2 h4 fun env i y hy => h env i y (List.mem_cons_of_mem _ hy)
      have e2 : M.bind (body e) (fun fl => match fl with
        | .nx e => forD body b (xs.map enc) e
        | .ct e => forD body b (xs.map enc) e
        | .bk e => M.ret (.nx e)
        | o => M.ret o) S = forD body b (xs.map enc) env2 S := by
        rcases h3 with h3 | h3 <;> rw [bind_ok h3]
      cases hq : xs.findSome? hit with
      | some d => rw [hq] at ih; exact e2.trans ih
      | none =>
        rw [hq] at ih
        obtain ⟨e', i', q⟩ := ih
        exact ⟨e', i', e2.trans q⟩
end Dn

namespace Dn
open PySem L2 PyProof.Rows
/-! ### plain laws, continued -/
def sgn (c : Nat) : D := .str ⟨#[c]⟩
theorem signs_sgn (l : List Nat) : signsD (tx l) = l.map sgn := rfl
theorem strsD_sgn (l : List Nat) : strsD (l.map sgn) = some (l.map fun c => tx [c]) := by
  have := strsD_map (l.map fun c => tx [c])
  rw [List.map_map] at this
  exact this
theorem flat_one (l : List Nat) : (l.map fun c => [c]).flatten = l := by
  induction l with
  | nil => rfl
  | cons c r ih => simp [ih]
theorem sum_one (l : List Nat) : ((l.map fun c => tx [c]).map (·.length)).sum = l.length := by
  induction l with
  | nil => rfl
  | cons c r ih =>
    simp only [List.map_cons, List.sum_cons, ih, List.length_cons]
    show 1 + r.length = _
    omega
/-- signs joined give the text -/
theorem join_sgn {s : Str} (hs : s = tx []) (l : List Nat) (hl : l.length ≤ lim) : joinO s (.lst (l.map sgn)) = some (.str (tx l)) := by
  subst hs
  show ((strsD (l.map sgn)).bind _) = _
  rw [strsD_sgn]
  show (if ((l.map fun c => tx [c]).map (·.length)).sum + (l.map fun c => tx [c]).length * (tx []).length ≤ lim then some (D.str (Txt.join (tx []) (l.map fun c => tx [c]))) else none) = _
  rw [sum_one, if_pos (by rw [tx_len]; simpa using hl)]
  have := join_tx (l.map fun c => [c])
  rw [List.map_map, flat_one] at this
  exact congrArg (fun x => some (D.str x)) this
theorem sIx_nn (n d : Nat) (k : Int) (h : 0 ≤ k) : HT.sIx n d (some k) = min k.toNat n := by
  show (if k < 0 then _ else _) = _
  rw [if_neg (by omega)]
/-- a slice of a list from one place on -/
theorem cutI_nn (xs : List Int) (a b : Int) (ha : 0 ≤ a) (hb : 0 ≤ b) : cutI xs (some a) (some b) = (xs.take b.toNat).drop a.toNat := by
  unfold cutI
  rw [sIx_nn _ _ _ ha, sIx_nn _ _ _ hb]
  apply List.ext_getElem?
  intro i
  simp only [List.getElem?_take, List.getElem?_drop]
  by_cases h1 : a.toNat ≤ xs.length
  · rw [Nat.min_eq_left h1]
    by_cases h2 : b.toNat ≤ xs.length
    · rw [Nat.min_eq_left h2]
      by_cases h3 : i < b.toNat - a.toNat
      · rw [if_pos h3, if_pos (by omega)]
      · rw [if_neg h3, if_neg (by omega)]
    · rw [Nat.min_eq_right (by omega)]
      by_cases h3 : i < xs.length - a.toNat
      · rw [if_pos h3, if_pos (by omega)]
      · rw [if_neg h3]
        split
        · rw [List.getElem?_eq_none (by omega)]
        · rfl
  · rw [show min a.toNat xs.length = xs.length by omega]
    rw [List.getElem?_eq_none (show xs.length ≤ a.toNat + i by omega), List.getElem?_eq_none (show xs.length ≤ xs.length + i by omega)]
    split <;> split <;> rfl
theorem cutI_len (xs : List Int) (a b : Int) (ha : 0 ≤ a) (hb : 0 ≤ b) : (cutI xs (some a) (some b)).length ≤ (b - a).toNat := by
  rw [cutI_nn _ _ _ ha hb, List.length_drop, List.length_take]
  omega
theorem cutI_le (xs : List Int) (a b : Option Int) : (cutI xs a b).length ≤ xs.length := by
  unfold cutI
  rw [List.length_take, List.length_drop]
  omega
theorem cutI_to (xs : List Int) (a : Int) (ha : 0 ≤ a) : cutI xs (some a) none = xs.drop a.toNat := by
  unfold cutI
  rw [sIx_nn _ _ _ ha]
  show (xs.drop (min a.toNat xs.length)).take (xs.length - min a.toNat xs.length) = _
  by_cases h : a.toNat ≤ xs.length
  · rw [Nat.min_eq_left h, List.take_of_length_le (by simp)]
  · rw [Nat.min_eq_right (by omega), List.drop_eq_nil_of_le (Nat.le_refl _), List.drop_eq_nil_of_le (by omega)]
    simp
theorem cutI_from (xs : List Int) (b : Int) (hb : 0 ≤ b) : cutI xs none (some b) = xs.take b.toNat := by
  unfold cutI
  rw [sIx_nn _ _ _ hb]
  show (xs.drop 0).take (min b.toNat xs.length - 0) = _
  rw [List.drop_zero, Nat.sub_zero]
  by_cases h : b.toNat ≤ xs.length
  · rw [Nat.min_eq_left h]
  · rw [Nat.min_eq_right (by omega), List.take_of_length_le (Nat.le_refl _), List.take_of_length_le (by omega)]
theorem ixN_nn (n : Nat) (i : Int) (h : 0 ≤ i) (h2 : i < n) : ixN n i = some i.toNat := by
  unfold ixN
  rw [if_pos h, if_pos h2]
theorem setD_map {α : Type} (f : α → D) (l : List α) (i : Nat) (a : α) : (l.map f).set i (f a) = (l.set i a).map f := by
  rw [List.map_set]
theorem all_set {α : Type} {l : List α} {P : α → Bool} {a : α} (i : Nat) (h : l.all P = true) (ha : P a = true) : (l.set i a).all P = true := by
  rw [List.all_eq_true] at h ⊢
  intro x hx
  rcases List.mem_or_eq_of_mem_set hx with h1 | h1
  · exact h x h1
  · rw [h1]; exact ha
/-- a place in a list -/
theorem ix_lst {xs : List D} {i : Int} (h : 0 ≤ i) {d : D} (hd : xs[i.toNat]? = some d) : ixD (.lst xs) (.int i) = some d := by
  obtain ⟨j, rfl⟩ : ∃ j : Nat, i = j := ⟨i.toNat, by omega⟩
  exact atI_nat (by simpa using hd)
theorem ix_tup {xs : List D} {i : Int} (h : 0 ≤ i) {d : D} (hd : xs[i.toNat]? = some d) : ixD (.tup xs) (.int i) = some d := by
  obtain ⟨j, rfl⟩ : ∃ j : Nat, i = j := ⟨i.toNat, by omega⟩
  exact atI_nat (by simpa using hd)
theorem ix_scr {xs : List Int} {i : Int} (h : 0 ≤ i) {d : Int} (hd : xs[i.toNat]? = some d) : ixD (.scr xs) (.int i) = some (.int d) := by
  obtain ⟨j, rfl⟩ : ∃ j : Nat, i = j := ⟨i.toNat, by omega⟩
  show (atI xs (j : Int)).map D.int = _
  rw [atI_nat (show xs[j]? = some d by simpa using hd)]
  rfl
theorem rng_len (lo : Int) (n : Nat) : (rng lo n).length = n := by simp [rng]
end Dn

namespace Dn
open PySem L2 PyProof.Rows
/-! ### texts that are written out, fields by name -/
theorem ofString_inj (a b : String) : (Str.ofString a = Str.ofString b) = (a = b) := by
  apply propext
  constructor
  · intro h
    rw [Str.ofString_eq_toList, Str.ofString_eq_toList] at h
    have h := congrArg (fun s : Str => s.cps.toList) h
    have h : a.toList.map Char.toNat = b.toList.map Char.toNat := by simpa using h
    refine String.toList_inj.mp ?_
    refine List.map_inj_right (fun x y e => ?_) |>.mp h
    exact Char.toNat_inj.mp e
  · intro h; rw [h]
theorem look_S {β : Type} (g k : Str) (x : β) (r : List (Str × β)) : List.lookup g ((k, x) :: r) = if g = k then some x else List.lookup g r := by
  by_cases h : g = k
  · subst h; rw [look_eq, if_pos rfl]
  · rw [look_ne _ _ h, if_neg h]
theorem isSome_some' {α : Type} (a : α) : (some a).isNone = false := rfl
/-- two objects of a store -/
theorem set_get_ne {S : Store} {n k : Nat} {ob : Ob} (h : n ≠ k) : (S.set n ob)[k]? = S[k]? := List.getElem?_set_ne h
theorem set_get {S : Store} {n : Nat} {ob ob' : Ob} (h : S[n]? = some ob') : (S.set n ob)[n]? = some ob := List.getElem?_set_self (List.getElem?_eq_some_iff.mp h).1
theorem set_set (S : Store) (n : Nat) (a b : Ob) : (S.set n a).set n b = S.set n b := by
  apply List.ext_getElem?
  intro i
  by_cases h : n = i
  · subst h
    by_cases hl : n < S.length
    · rw [List.getElem?_set_self (by simpa using hl), List.getElem?_set_self hl]
    · rw [List.getElem?_eq_none (by simp; omega), List.getElem?_eq_none (by simp; omega)]
  · rw [List.getElem?_set_ne h, List.getElem?_set_ne h, List.getElem?_set_ne h]
theorem set_same {S : Store} {n : Nat} {ob : Ob} (h : S[n]? = some ob) : S.set n ob = S := by
  apply List.ext_getElem?
  intro i
  by_cases c : n = i
  · subst c; rw [set_get h, h]
  · rw [List.getElem?_set_ne c]
/-! ### loops that stand in a goal: generalize hr : forD _ _ _ _ _ = r -/
theorem seek_of {α : Type} {body : En → M Fl} {b : D → En → Option En} {S : Store} {enc : α → D} {xs : List α} {env : En} {r : R Fl} (hr : forD body b (xs.map enc) env S = r) (hit : α → Option D) (I : En → Prop) (i : I env) (h : ∀ env, I env → ∀ x ∈ xs, ∃ env1, b (enc x) env = some env1 ∧ match hit x with
      | some d => body env1 S = .ok (.rt d) S
      | none => ∃ env2, (body env1 S = .ok (.nx env2) S ∨ body env1 S = .ok (.ct env2) S) ∧ I env2) :
    (∃ d, xs.findSome? hit = some d ∧ r = .ok (.rt d) S) ∨ (xs.findSome? hit = none ∧ ∃ env', I env' ∧ r = .ok (.nx env') S) := by
  subst hr
  have key := forD_seek (body := body) (b := b) (S := S) enc hit I xs env i h
  cases e : xs.findSome? hit with
  | some d => rw [e] at key; exact .inl ⟨d, rfl, key⟩
  | none =>
    rw [e] at key
    obtain ⟨env', i', q⟩ := key
    exact .inr ⟨rfl, env', i', q⟩
theorem inv_of {α : Type} {body : En → M Fl} {b : D → En → Option En} {S : Store} {enc : α → D} {xs : List α} {env : En} {r : R Fl} (hr : forD body b (xs.map enc) env S = r) (I : List α → En → Store → Prop) (Post : Fl → Store → Prop) (h0 : I xs env S) (hd : ∀ env S, I [] env S → Post (.nx env) S)
    (hs : ∀ x xs env S, I (x :: xs) env S → ∃ env1, b (enc x) env = some env1 ∧ ∃ fl S', body env1 S = .ok fl S' ∧ match fl with
      | .nx e => I xs e S'
      | .ct e => I xs e S'
      | .bk e => Post (.nx e) S'
      | o => Post o S') : ∃ fl S', r = .ok fl S' ∧ Post fl S' := by
  subst hr
  exact forD_inv enc I Post hd hs xs env S h0
theorem fold_of {α σ : Type} {body : En → M Fl} {b : D → En → Option En} {enc : α → D} {xs : List α} {env : En} {S : Store} {r : R Fl} (hr : forD body b (xs.map enc) env S = r) (ev : σ → En) (st : σ → Store) (step : σ → α → σ) (s : σ) (he : env = ev s) (hS : S = st s)
    (h : ∀ s, ∀ x ∈ xs, ∃ env1, b (enc x) (ev s) = some env1 ∧ (body env1 (st s) = .ok (.nx (ev (step s x))) (st (step s x)) ∨ body env1 (st s) = .ok (.ct (ev (step s x))) (st (step s x)))) :
    r = .ok (.nx (ev (xs.foldl step s))) (st (xs.foldl step s)) := by
  subst hr he hS
  exact forD_foldS enc ev st step xs h s
theorem find_range {β : Type} {f : Nat → Option β} {n : Nat} {b : β} (h : (List.range n).findSome? f = some b) : ∃ i, i < n ∧ f i = some b ∧ ∀ j, j < i → f j = none := by
  obtain ⟨l1, a, l2, e, h1, h2⟩ := List.findSome?_eq_some_iff.mp h
  have g : ∀ k, k < l1.length + 1 → (l1 ++ [a])[k]? = some k := fun k hk => by
    have e2 : l1 ++ [a] ++ l2 = List.range n := by rw [e]; simp
    have hl : k < (l1 ++ [a]).length := by simpa using hk
    rw [← List.getElem?_append_left (l₂ := l2) hl, e2]
    have hn : k < n := by
      have := congrArg List.length e2
      simp at this hl
      omega
    rw [List.getElem?_range hn]
  have ha : a = l1.length := by
    have := g l1.length (by omega)
    simpa using this
  have hn : l1.length < n := by
    have := congrArg List.length e
    simp at this
    omega
  refine ⟨l1.length, hn, by rw [← ha]; exact h1, fun j hj => h2 j ?_⟩
  have := g j (by omega)
  rw [List.getElem?_append_left hj] at this
  exact List.mem_of_getElem? this
theorem rng_map (n : Nat) : rng 0 n = (List.range n).map fun i : Nat => D.int (0 + (i : Nat)) := rfl
theorem ix_map {α : Type} {f : α → D} {xs : List α} {i : Nat} {a : α} (h : xs[i]? = some a) : ixD (.lst (xs.map f)) (.int (i : Nat)) = some (f a) := by
  show atI _ _ = _
  rw [atI_nat (by rw [List.getElem?_map, h]; rfl)]
theorem lk0 : ((0 : Nat) ≤ lim) = True := by decide
theorem ll0 : ((0 : Nat) < lim) = True := by decide
theorem lk1 : ((1 : Nat) ≤ lim) = True := by decide
theorem ll1 : ((1 : Nat) < lim) = True := by decide
theorem lk2 : ((2 : Nat) ≤ lim) = True := by decide
theorem ll2 : ((2 : Nat) < lim) = True := by decide
theorem lk3 : ((3 : Nat) ≤ lim) = True := by decide
theorem ll3 : ((3 : Nat) < lim) = True := by decide
theorem lk4 : ((4 : Nat) ≤ lim) = True := by decide
theorem ll4 : ((4 : Nat) < lim) = True := by decide
theorem lk5 : ((5 : Nat) ≤ lim) = True := by decide
theorem ll5 : ((5 : Nat) < lim) = True := by decide
theorem lk6 : ((6 : Nat) ≤ lim) = True := by decide
theorem ll6 : ((6 : Nat) < lim) = True := by decide
theorem lk7 : ((7 : Nat) ≤ lim) = True := by decide
theorem ll7 : ((7 : Nat) < lim) = True := by decide
theorem lk8 : ((8 : Nat) ≤ lim) = True := by decide
theorem ll8 : ((8 : Nat) < lim) = True := by decide
theorem lk9 : ((9 : Nat) ≤ lim) = True := by decide
theorem ll9 : ((9 : Nat) < lim) = True := by decide
theorem lk10 : ((10 : Nat) ≤ lim) = True := by decide
theorem ll10 : ((10 : Nat) < lim) = True := by decide
theorem lk11 : ((11 : Nat) ≤ lim) = True := by decide
theorem ll11 : ((11 : Nat) < lim) = True := by decide
theorem lk12 : ((12 : Nat) ≤ lim) = True := by decide
theorem ll12 : ((12 : Nat) < lim) = True := by decide
theorem lk13 : ((13 : Nat) ≤ lim) = True := by decide
theorem ll13 : ((13 : Nat) < lim) = True := by decide
theorem lk14 : ((14 : Nat) ≤ lim) = True := by decide
theorem ll14 : ((14 : Nat) < lim) = True := by decide
theorem lk15 : ((15 : Nat) ≤ lim) = True := by decide
theorem ll15 : ((15 : Nat) < lim) = True := by decide
theorem lk16 : ((16 : Nat) ≤ lim) = True := by decide
theorem ll16 : ((16 : Nat) < lim) = True := by decide
theorem lk17 : ((17 : Nat) ≤ lim) = True := by decide
theorem ll17 : ((17 : Nat) < lim) = True := by decide
theorem lk18 : ((18 : Nat) ≤ lim) = True := by decide
theorem ll18 : ((18 : Nat) < lim) = True := by decide
theorem lk19 : ((19 : Nat) ≤ lim) = True := by decide
theorem ll19 : ((19 : Nat) < lim) = True := by decide
theorem lk20 : ((20 : Nat) ≤ lim) = True := by decide
theorem ll20 : ((20 : Nat) < lim) = True := by decide
theorem lk21 : ((21 : Nat) ≤ lim) = True := by decide
theorem ll21 : ((21 : Nat) < lim) = True := by decide
theorem lk22 : ((22 : Nat) ≤ lim) = True := by decide
theorem ll22 : ((22 : Nat) < lim) = True := by decide
theorem lk23 : ((23 : Nat) ≤ lim) = True := by decide
theorem ll23 : ((23 : Nat) < lim) = True := by decide
theorem lk24 : ((24 : Nat) ≤ lim) = True := by decide
theorem ll24 : ((24 : Nat) < lim) = True := by decide
theorem isN_1 : isN .non = true := rfl
theorem isN_2 (b : Bool) : isN (.bl b) = false := rfl
theorem isN_3 (b : Int) : isN (.int b) = false := rfl
theorem isN_4 (b : Str) : isN (.str b) = false := rfl
theorem isN_5 (b : List D) : isN (.lst b) = false := rfl
theorem isN_6 (b : List D) : isN (.tup b) = false := rfl
theorem isN_7 (b : List (Key × D)) : isN (.dct b) = false := rfl
theorem isN_8 (b : Nat) : isN (.obj b) = false := rfl
theorem isD_bl (a b : Bool) : isD (.bl a) (.bl b) = some (decide (a = b)) := rfl
theorem isnD_bl (a b : Bool) : isnD (.bl a) (.bl b) = some (!decide (a = b)) := rfl
theorem mapErase {α : Type} (f : α → D) : ∀ (l : List α) (i : Nat), (l.map f).eraseIdx i = (l.eraseIdx i).map f
  | [], _ => rfl
  | a :: l, 0 => rfl
  | a :: l, i + 1 => by simp [mapErase f l i]
theorem resd_f (d : D) : (Res.f d).d = d := rfl
theorem resd_o (xs : List D) : (Res.o xs).d = .lst xs := rfl
end Dn

namespace Dn
open PySem L2 PyProof.Rows
/-! ### == of data -/
/-- no dict, no object, at most k deep -/
def pl : Nat → D → Bool
  | _, .non => true
  | _, .bl _ => true
  | _, .int _ => true
  | _, .str s => PyData.strOk s
  | k + 1, .lst xs => xs.all (pl k)
  | k + 1, .tup xs => xs.all (pl k)
  | _, _ => false
theorem pl_py : ∀ (k : Nat) (d : D), pl k d = true → (toPy d).canLay0 = true ∧ (toPy d).depth ≤ k := by
  intro k
  induction k with
  | zero => intro d h; cases d <;> first | exact ⟨rfl, Nat.le_refl _⟩ | (exact ⟨h, Nat.le_refl _⟩) | (simp [pl] at h)
  | succ k ih =>
    have all : ∀ xs : List D, xs.all (pl k) = true → PyData.canLayAll0 (toPyA xs) = true ∧ PyData.depthAll (toPyA xs) ≤ k := by
      intro xs
      induction xs with
      | nil => intro _; exact ⟨rfl, Nat.zero_le _⟩
      | cons x xs ihx =>
        intro h
        rw [List.all_cons, Bool.and_eq_true] at h
        obtain ⟨a, b⟩ := ih x h.1
        obtain ⟨c, d⟩ := ihx h.2
        exact ⟨by simp [toPyA, PyData.canLayAll0, a, c], by simp only [toPyA, PyData.depthAll]; omega⟩
    intro d h
    cases d with
    | lst xs =>
      obtain ⟨a, b⟩ := all xs h
      exact ⟨by simpa [toPy, PyData.canLay0] using a, by simp only [toPy, PyData.depth]; omega⟩
    | tup xs =>
      obtain ⟨a, b⟩ := all xs h
      exact ⟨by simpa [toPy, PyData.canLay0] using a, by simp only [toPy, PyData.depth]; omega⟩
    | dct _ => simp [pl] at h
    | scr _ => simp [pl] at h
    | obj _ => simp [pl] at h
    | str s => exact ⟨h, Nat.zero_le _⟩
    | _ => exact ⟨rfl, Nat.zero_le _⟩
theorem pl_shp {k : Nat} {d : D} (hk : k ≤ 64) (h : pl k d = true) : shpD d = true := by
  obtain ⟨a, b⟩ := pl_py k d h
  unfold shpD SeqAt.shaped
  rw [a, decide_eq_true (by omega)]
  rfl
theorem eqD_pl {j k : Nat} {x y : D} (hx : pl j x = true) (hy : pl k y = true) (hj : j ≤ 64 := by decide) (hk : k ≤ 64 := by decide) : eqD x y = some (PyData.eqv (toPy x) (toPy y)) := by
  unfold eqD
  rw [if_pos (Or.inr ⟨pl_shp hj hx, pl_shp hk hy⟩)]
theorem eqD_self {k : Nat} {x : D} (hx : pl k x = true) (hk : k ≤ 64 := by decide) : eqD x x = some true := by
  rw [eqD_pl hx hx hk hk, SeqAt.eqv_refl _ (pl_py k x hx).1]
theorem neD_self {k : Nat} {x : D} (hx : pl k x = true) (hk : k ≤ 64 := by decide) : neD x x = some false := by unfold neD; rw [eqD_self hx hk]; rfl
theorem pl_map {α : Type} {k : Nat} {f : α → D} {xs : List α} (h : ∀ a ∈ xs, pl k (f a) = true) : pl (k + 1) (.lst (xs.map f)) = true := by
  show (xs.map f).all (pl k) = true
  rw [List.all_eq_true]
  intro d hd
  obtain ⟨a, ha, rfl⟩ := List.mem_map.mp hd
  exact h a ha
theorem pl_mem {k : Nat} {xs : List D} (h : ∀ d ∈ xs, pl k d = true) : pl (k + 1) (.lst xs) = true := List.all_eq_true.mpr h
theorem pl_memT {k : Nat} {xs : List D} (h : ∀ d ∈ xs, pl k d = true) : pl (k + 1) (.tup xs) = true := List.all_eq_true.mpr h
theorem pl_up : ∀ {k : Nat} {d : D}, pl k d = true → ∀ {j : Nat}, k ≤ j → pl j d = true := by
  intro k
  induction k with
  | zero => intro d h j _; cases d <;> first | (cases j <;> rfl) | (cases j <;> exact h) | (simp [pl] at h)
  | succ k ih =>
    intro d h j hj
    obtain ⟨i, rfl⟩ : ∃ i, j = i + 1 := ⟨j - 1, by omega⟩
    have all : ∀ xs : List D, xs.all (pl k) = true → xs.all (pl i) = true := fun xs h => List.all_eq_true.mpr fun x hx => ih (List.all_eq_true.mp h x hx) (by omega)
    cases d with
    | lst xs => exact all xs h
    | tup xs => exact all xs h
    | dct _ => simp [pl] at h
    | scr _ => simp [pl] at h
    | obj _ => simp [pl] at h
    | str s => exact h
    | _ => rfl
theorem eqvA_map {α : Type} [DecidableEq α] {f : α → D} (hf : ∀ a b, PyData.eqv (toPy (f a)) (toPy (f b)) = decide (a = b)) : ∀ (xs ys : List α), PyData.eqvAll (toPyA (xs.map f)) (toPyA (ys.map f)) = decide (xs = ys)
  | [], [] => rfl
  | [], y :: ys => by simp [toPyA, PyData.eqvAll]
  | x :: xs, [] => by simp [toPyA, PyData.eqvAll]
  | x :: xs, y :: ys => by
    simp only [List.map_cons, toPyA, PyData.eqvAll, hf, eqvA_map hf xs ys]
    by_cases h : x = y <;> simp [h]
theorem eqD_map {α : Type} [DecidableEq α] {k : Nat} {f : α → D} {xs ys : List α} (h1 : ∀ a ∈ xs, pl k (f a) = true) (h2 : ∀ a ∈ ys, pl k (f a) = true) (hf : ∀ a b, PyData.eqv (toPy (f a)) (toPy (f b)) = decide (a = b)) (hk : k + 1 ≤ 64 := by decide) : eqD (.lst (xs.map f)) (.lst (ys.map f)) = some (decide (xs = ys)) := by
  rw [eqD_pl (pl_map h1) (pl_map h2) hk hk]
  show some (PyData.eqvAll _ _) = _
  rw [eqvA_map hf]
theorem eqv_str (a b : Str) : PyData.eqv (toPy (.str a)) (toPy (.str b)) = decide (a = b) := by
  show (a == b) = _
  rw [Bool.eq_iff_iff]; simp
theorem eqv_int (a b : Int) : PyData.eqv (toPy (.int a)) (toPy (.int b)) = decide (a = b) := by
  show (a == b) = _
  rw [Bool.eq_iff_iff]; simp
theorem eqD_strs {xs ys : List Str} (h1 : ∀ x ∈ xs, PyData.strOk x = true) (h2 : ∀ x ∈ ys, PyData.strOk x = true) : eqD (.lst (xs.map .str)) (.lst (ys.map .str)) = some (decide (xs = ys)) := eqD_map (k := 0) h1 h2 eqv_str
theorem eqD_ints (xs ys : List Int) : eqD (.lst (xs.map .int)) (.lst (ys.map .int)) = some (decide (xs = ys)) := eqD_map (k := 0) (fun _ _ => rfl) (fun _ _ => rfl) eqv_int
/-- xs == [] -/
theorem eqD_nil {k : Nat} {xs : List D} (h : pl k (.lst xs) = true) (hk : k ≤ 64 := by decide) : eqD (.lst xs) (.lst []) = some (decide (xs = [])) := by
  rw [eqD_pl h (show pl 1 (.lst []) = true from rfl) hk (by decide)]
  show some (PyData.eqvAll (toPyA xs) []) = _
  cases xs with
  | nil => rfl
  | cons x xs => simp [toPyA, PyData.eqvAll]
/-- unlike kinds -/
theorem eqD_is (a : Int) (b : Str) : eqD (.int a) (.str b) = some false := rfl
theorem eqD_si (a : Str) (b : Int) : eqD (.str a) (.int b) = some false := rfl
theorem eqD_ns (b : Str) : eqD .non (.str b) = some false := rfl
theorem eqD_sn (b : Str) : eqD (.str b) .non = some false := rfl
theorem eqD_ni (b : Int) : eqD .non (.int b) = some false := rfl
theorem eqD_in (b : Int) : eqD (.int b) .non = some false := rfl
theorem eqD_nn : eqD .non .non = some true := rfl
/-! ### slices -/
def cutL {α : Type} (xs : List α) (lo hi : Option Int) : List α := (xs.drop (HT.sIx xs.length 0 lo)).take (HT.sIx xs.length xs.length hi - HT.sIx xs.length 0 lo)
theorem cutI_L (xs : List Int) (lo hi : Option Int) : cutI xs lo hi = cutL xs lo hi := rfl
theorem cutD_L (xs : List D) (lo hi : Option Int) : Dn.cutD xs lo hi = cutL xs lo hi := rfl
theorem cutS_tx (l : List Nat) (lo hi : Option Int) : cutS (tx l) lo hi = tx (cutL l lo hi) := rfl
theorem cutL_map {α β : Type} (f : α → β) (xs : List α) (lo hi : Option Int) : cutL (xs.map f) lo hi = (cutL xs lo hi).map f := by
  unfold cutL
  rw [List.length_map, ← List.map_drop, ← List.map_take]
theorem cutL_nn {α : Type} (xs : List α) (a b : Int) (ha : 0 ≤ a) (hb : 0 ≤ b) : cutL xs (some a) (some b) = (xs.take b.toNat).drop a.toNat := by
  unfold cutL
  rw [sIx_nn _ _ _ ha, sIx_nn _ _ _ hb]
  apply List.ext_getElem?
  intro i
  simp only [List.getElem?_take, List.getElem?_drop]
  by_cases h1 : a.toNat ≤ xs.length
  · rw [Nat.min_eq_left h1]
    by_cases h2 : b.toNat ≤ xs.length
    · rw [Nat.min_eq_left h2]
      by_cases h3 : i < b.toNat - a.toNat
      · rw [if_pos h3, if_pos (by omega)]
      · rw [if_neg h3, if_neg (by omega)]
    · rw [Nat.min_eq_right (by omega)]
      by_cases h3 : i < xs.length - a.toNat
      · rw [if_pos h3, if_pos (by omega)]
      · rw [if_neg h3]
        split
        · rw [List.getElem?_eq_none (by omega)]
        · rfl
  · rw [show min a.toNat xs.length = xs.length by omega]
    rw [List.getElem?_eq_none (show xs.length ≤ a.toNat + i by omega), List.getElem?_eq_none (show xs.length ≤ xs.length + i by omega)]
    split <;> split <;> rfl
theorem cutL_len {α : Type} (xs : List α) (a b : Int) (ha : 0 ≤ a) (hb : 0 ≤ b) : (cutL xs (some a) (some b)).length ≤ (b - a).toNat := by
  rw [cutL_nn _ _ _ ha hb, List.length_drop, List.length_take]
  omega
theorem cutL_to {α : Type} (xs : List α) (a : Int) (ha : 0 ≤ a) : cutL xs (some a) none = xs.drop a.toNat := by
  unfold cutL
  rw [sIx_nn _ _ _ ha]
  show (xs.drop (min a.toNat xs.length)).take (xs.length - min a.toNat xs.length) = _
  by_cases h : a.toNat ≤ xs.length
  · rw [Nat.min_eq_left h, List.take_of_length_le (by simp)]
  · rw [Nat.min_eq_right (by omega), List.drop_eq_nil_of_le (Nat.le_refl _), List.drop_eq_nil_of_le (by omega)]
    simp
theorem cutL_from {α : Type} (xs : List α) (b : Int) (hb : 0 ≤ b) : cutL xs none (some b) = xs.take b.toNat := by
  unfold cutL
  rw [sIx_nn _ _ _ hb]
  show (xs.drop 0).take (min b.toNat xs.length - 0) = _
  rw [List.drop_zero, Nat.sub_zero]
  by_cases h : b.toNat ≤ xs.length
  · rw [Nat.min_eq_left h]
  · rw [Nat.min_eq_right (by omega), List.take_of_length_le (Nat.le_refl _), List.take_of_length_le (by omega)]
theorem cutL_le {α : Type} (xs : List α) (a b : Option Int) : (cutL xs a b).length ≤ xs.length := by
  unfold cutL
  rw [List.length_take, List.length_drop]
  omega
theorem cutL_mem {α : Type} {xs : List α} {lo hi : Option Int} {x : α} (h : x ∈ cutL xs lo hi) : x ∈ xs := List.mem_of_mem_drop (List.mem_of_mem_take h)
theorem cutL_last {α : Type} (xs : List α) : cutL xs none (some (-1)) = xs.dropLast := by
  have e : HT.sIx xs.length xs.length (some (-1)) = ((-1 : Int) + (xs.length : Int)).toNat := by
    show (if (-1 : Int) < 0 then ((-1 : Int) + (xs.length : Int)).toNat else min (-1 : Int).toNat xs.length) = _
    rw [if_pos (by decide)]
  unfold cutL
  rw [e]
  show (xs.drop 0).take (((-1 : Int) + (xs.length : Int)).toNat - 0) = _
  rw [List.drop_zero, List.dropLast_eq_take]
  congr 1
  omega
end Dn

namespace Dn
open PySem L2 PyProof.Rows
/-! ### range(i, j, 2), range(i, j, 3) -/
theorem rng_by2 {i j : Int} (hi : -1000000 ≤ i ∧ i ≤ 1000000) (hj : -1000000 ≤ j ∧ j ≤ 1000000) : ∃ n : Nat, Builtin.Range.rangeSize i j 2 = n ∧ Builtin.Range.small i j 2 = true ∧ (∀ t : Nat, t < n → i + (t : Int) * 2 < j) ∧ (n : Int) * 2 ≤ (if i < j then j - i + 1 else 0) := by
  have hsz : Builtin.Range.rangeSize i j 2 = if i < j then (j - i - 1) / 2 + 1 else 0 := rfl
  refine ⟨(Builtin.Range.rangeSize i j 2).toNat, ?_, ?_, fun t ht => ?_, ?_⟩
  · rw [hsz]; split <;> omega
  · unfold Builtin.Range.small
    rw [hsz]
    simp only [Builtin.Range.rangeFitsLong, Bool.and_eq_true, Bool.or_eq_true, decide_eq_true_eq, beq_iff_eq, show (2 : Int) > 0 by decide, if_true]
    split <;> omega
  · rw [hsz] at ht
    split at ht <;> omega
  · rw [hsz]
    split <;> omega
theorem rng_by3 {i j : Int} (hi : -1000000 ≤ i ∧ i ≤ 1000000) (hj : -1000000 ≤ j ∧ j ≤ 1000000) : ∃ n : Nat, Builtin.Range.rangeSize i j 3 = n ∧ Builtin.Range.small i j 3 = true ∧ (∀ t : Nat, t < n → i + (t : Int) * 3 < j) ∧ (n : Int) * 3 ≤ (if i < j then j - i + 2 else 0) := by
  have hsz : Builtin.Range.rangeSize i j 3 = if i < j then (j - i - 1) / 3 + 1 else 0 := rfl
  refine ⟨(Builtin.Range.rangeSize i j 3).toNat, ?_, ?_, fun t ht => ?_, ?_⟩
  · rw [hsz]; split <;> omega
  · unfold Builtin.Range.small
    rw [hsz]
    simp only [Builtin.Range.rangeFitsLong, Bool.and_eq_true, Bool.or_eq_true, decide_eq_true_eq, beq_iff_eq, show (3 : Int) > 0 by decide, if_true]
    split <;> omega
  · rw [hsz] at ht
    split at ht <;> omega
  · rw [hsz]
    split <;> omega
theorem rngC_map (lo c : Int) (n : Nat) : rngC lo c n = (List.range n).map fun i : Nat => D.int (lo + (i : Nat) * c) := rfl
theorem lit_ok (s : String) : PyData.strOk (Str.ofString s) = true := by
  rw [Str.ofString_eq_toList]
  show ((s.toList.map Char.toNat).toArray).all _ = true
  rw [List.all_toArray, List.all_eq_true]
  intro n hn
  obtain ⟨c, _, rfl⟩ := List.mem_map.mp hn
  have := c.valid
  simp only [decide_eq_true_eq]
  rcases this with h | ⟨_, h⟩
  · have h : c.toNat < 0xD800 := h
    omega
  · exact h
theorem pl_lit (s : String) : pl 0 (.str (Str.ofString s)) = true := lit_ok s
theorem eqD_cons_nil {k : Nat} {x : D} {xs : List D} (h : pl k (.lst (x :: xs)) = true) (hk : k ≤ 64 := by decide) : eqD (.lst (x :: xs)) (.lst []) = some false := by
  rw [eqD_nil h hk, decide_eq_false (by simp)]
/-- a comprehension whose items are not spelt -/
theorem lcD_ex {α : Type} {b : D → En → Option En} {elt : En → M D} {env : En} {S : Store} (enc : α → D) (P : D → Prop) : ∀ (xs : List α) (acc : List D), (∀ x ∈ xs, ∃ env1 d, b (enc x) env = some env1 ∧ elt env1 S = .ok d S ∧ P d) → acc.length + xs.length ≤ lim →
    ∃ ds, lcD b tYesD elt env (xs.map enc) acc S = .ok (acc ++ ds) S ∧ ds.length = xs.length ∧ ∀ d ∈ ds, P d
  | [], acc, _, _ => ⟨[], by simp [lcD, M.ret], rfl, fun _ h => by simp at h⟩
  | x :: xs, acc, h, hl => by
    obtain ⟨env1, d, h1, h2, h3⟩ := h x List.mem_cons_self
    have hl' : acc.length + (xs.length + 1) ≤ lim := by simpa using hl
    obtain ⟨ds, e1, e2, e3⟩ := lcD_ex (b := b) (elt := elt) (env := env) (S := S) enc P xs (acc ++ [d]) (fun y hy => h y (List.mem_cons_of_mem _ hy)) (by simp; omega)
    refine ⟨d :: ds, ?_, by simp [e2], fun y hy => ?_⟩
    · rw [List.map_cons]
      unfold lcD
      rw [h1]
      show M.bind _ _ S = _
      rw [bind_ok (quiet_ok (show tYesD env1 S = .ok true S from rfl)), if_pos rfl, bind_ok (quiet_ok h2), if_pos (show acc.length < lim by omega), e1]
      simp
    · rcases List.mem_cons.mp hy with rfl | hy
      · exact h3
      · exact e3 y hy
end Dn

namespace Dn
open PySem L2 PyProof.Rows
/-! ### plain laws of lists, tables -/
theorem lenO_lst (xs : List D) : lenO [.lst xs] = some (.int xs.length) := rfl
theorem lenO_dctl (xs : List (Key × D)) : lenO [.dct xs] = some (.int xs.length) := rfl
theorem lenO_tupl (xs : List D) : lenO [.tup xs] = some (.int xs.length) := rfl
theorem ixD_l0 (a : D) (xs : List D) : ixD (.lst (a :: xs)) (.int 0) = some a := ix_lst (by decide) rfl
theorem ixD_l1 (a b : D) (xs : List D) : ixD (.lst (a :: b :: xs)) (.int 1) = some b := ix_lst (by decide) rfl
theorem ixD_l2 (a b c : D) (xs : List D) : ixD (.lst (a :: b :: c :: xs)) (.int 2) = some c := ix_lst (by decide) rfl
theorem ixD_l3 (a b c d : D) (xs : List D) : ixD (.lst (a :: b :: c :: d :: xs)) (.int 3) = some d := ix_lst (by decide) rfl
theorem ixD_l4 (a b c d e : D) (xs : List D) : ixD (.lst (a :: b :: c :: d :: e :: xs)) (.int 4) = some e := ix_lst (by decide) rfl
theorem ixD_t0 (a : D) (xs : List D) : ixD (.tup (a :: xs)) (.int 0) = some a := ix_tup (by decide) rfl
theorem ixD_t1 (a b : D) (xs : List D) : ixD (.tup (a :: b :: xs)) (.int 1) = some b := ix_tup (by decide) rfl
theorem ixD_t2 (a b c : D) (xs : List D) : ixD (.tup (a :: b :: c :: xs)) (.int 2) = some c := ix_tup (by decide) rfl
theorem ixD_t3 (a b c d : D) (xs : List D) : ixD (.tup (a :: b :: c :: d :: xs)) (.int 3) = some d := ix_tup (by decide) rfl
theorem ixD_t4 (a b c d e : D) (xs : List D) : ixD (.tup (a :: b :: c :: d :: e :: xs)) (.int 4) = some e := ix_tup (by decide) rfl
theorem ixD_t5 (a b c d e f : D) (xs : List D) : ixD (.tup (a :: b :: c :: d :: e :: f :: xs)) (.int 5) = some f := ix_tup (by decide) rfl
theorem ixD_t6 (a b c d e f g : D) (xs : List D) : ixD (.tup (a :: b :: c :: d :: e :: f :: g :: xs)) (.int 6) = some g := ix_tup (by decide) rfl
theorem lcD_cons_S (b : D → En → Option En) (t : En → M Bool) (elt : En → M D) (env : En) (d : D) (ds acc : List D) (S : Store) : lcD b t elt env (d :: ds) acc S = (match b d env with
    | none => R.bad
    | some env1 => bindR (quietR (t env1 S)) fun k => if k = true then M.bind (quiet (elt env1)) fun y => if acc.length < lim then lcD b t elt env ds (acc ++ [y]) else M.bad else lcD b t elt env ds acc) := by
  rw [lcD]
  cases b d env with
  | none => rfl
  | some e => rfl
theorem lcD_nil_S (b : D → En → Option En) (t : En → M Bool) (elt : En → M D) (env : En) (acc : List D) (S : Store) : lcD b t elt env [] acc S = .ok acc S := rfl
theorem sCons_nx' {a b : En → M Fl} {env env' : En} {S S' : Store} (h : a env S = .ok (.nx env') S') : sCons a b env S = b env' S' := by
  rw [sCons_S, bind_S, h]
  rfl
theorem forD_nx {body : En → M Fl} {b : D → En → Option En} {d : D} {ds : List D} {env env1 env2 : En} {S S' : Store} (h1 : b d env = some env1) (h2 : body env1 S = .ok (.nx env2) S') : forD body b (d :: ds) env S = forD body b ds env2 S' := by
  rw [forD_cons_S, h1]
  show M.bind (body env1) _ S = _
  rw [bind_ok h2]
theorem scr_ex (ns : List Int) (i : Int) (h0 : 0 ≤ i) (h : i < ns.length) : ∃ v, ixD (.scr ns) (.int i) = some (.int v) := by
  obtain ⟨j, rfl⟩ : ∃ j : Nat, i = j := ⟨i.toNat, by omega⟩
  have hj : j < ns.length := by omega
  exact ⟨ns[j], ix_scr (by omega) (by rw [Int.toNat_natCast]; exact List.getElem?_eq_getElem hj)⟩
theorem cutD_L1 (a : D) (xs : List D) : Dn.cutD (a :: xs) (some 1) none = xs := by
  show cutL _ _ _ = _
  rw [cutL_to _ _ (by decide)]; rfl
theorem findF_of {x : D} : ∀ {ys : List D} {i : Nat} {z : D}, ys[i]? = some z → eqF z x = true → (∀ j w, j < i → ys[j]? = some w → eqF w x = false) → findF x ys = some i
  | [], _, _, h, _, _ => by simp at h
  | y :: ys, 0, z, h, e, _ => by
    cases h
    unfold findF
    rw [if_pos e]
  | y :: ys, i + 1, z, h, e, n => by
    have h0 := n 0 y (Nat.zero_lt_succ _) rfl
    unfold findF
    rw [if_neg (by rw [h0]; simp), findF_of (by simpa using h) e fun j w hj hw => n (j + 1) w (Nat.succ_lt_succ hj) (by simpa using hw)]
    rfl
theorem inF_strs (e : Str) : ∀ xs : List Str, inF (.str e) (xs.map .str) = decide (e ∈ xs)
  | [] => rfl
  | x :: xs => by
    have ih := inF_strs e xs
    unfold inF at ih ⊢
    rw [List.map_cons, List.any_cons, ih]
    show ((x == e) || decide (e ∈ xs)) = _
    rw [Bool.eq_iff_iff]
    simp only [Bool.or_eq_true, beq_iff_eq, decide_eq_true_eq, List.mem_cons]
    constructor
    · rintro (h | h)
      · exact .inl h.symm
      · exact .inr h
    · rintro (h | h)
      · exact .inl h.symm
      · exact .inr h
theorem inD_strs (e : Str) (xs : List Str) : inD (.str e) (.lst (xs.map .str)) = some (decide (e ∈ xs)) := by
  have h : inD (.str e) (.lst (xs.map .str)) = if flatD (.str e) = true ∧ (xs.map D.str).all flatD = true then some (inF (.str e) (xs.map .str)) else if shpD (.str e) = true ∧ shpD (.lst (xs.map .str)) = true then some ((toPyA (xs.map .str)).any fun z => PyData.eqv z (toPy (.str e))) else none := rfl
  rw [h, if_pos ⟨rfl, by rw [List.all_map]; exact List.all_eq_true.mpr fun _ _ => rfl⟩, inF_strs]
theorem ninD_strs (e : Str) (xs : List Str) : ninD (.str e) (.lst (xs.map .str)) = some (!decide (e ∈ xs)) := by unfold ninD; rw [inD_strs]; rfl
theorem getK_nil (k : Key) : getK [] k = none := rfl
theorem getK_cons (a : Key) (x : D) (r : List (Key × D)) (k : Key) : getK ((a, x) :: r) k = if a = k then some x else getK r k := by
  unfold getK
  by_cases h : a = k <;> simp [List.find?_cons, h]
theorem getK_upd (k : Key) (v : D) (k' : Key) : ∀ kvs : List (Key × D), getK (kvs.map fun kv => if kv.1 = k then (kv.1, v) else kv) k' = if k' = k then (getK kvs k).map (fun _ => v) else getK kvs k'
  | [] => by simp [getK]
  | (a, x) :: r => by
    rw [List.map_cons]
    by_cases h : a = k
    · subst h
      rw [if_pos rfl, getK_cons, getK_cons, getK_cons, getK_upd a v k' r, if_pos rfl]
      by_cases h2 : k' = a
      · subst h2; rw [if_pos rfl, if_pos rfl]; rfl
      · rw [if_neg h2, if_neg (Ne.symm h2), if_neg h2, if_neg (Ne.symm h2)]
    · rw [if_neg h, getK_cons, getK_cons, getK_cons, getK_upd k v k' r, if_neg h]
      by_cases h2 : k' = k
      · subst h2; rw [if_pos rfl, if_neg h, if_pos rfl]
      · rw [if_neg h2, if_neg h2]
theorem getK_any (k : Key) : ∀ kvs : List (Key × D), (kvs.any fun kv => decide (kv.1 = k)) = (getK kvs k).isSome
  | [] => rfl
  | (a, x) :: r => by
    rw [List.any_cons, getK_cons, getK_any k r]
    by_cases h : a = k <;> simp [h]
theorem getK_end (k : Key) (v : D) (k' : Key) : ∀ kvs : List (Key × D), getK (kvs ++ [(k, v)]) k' = (getK kvs k').or (if k = k' then some v else none)
  | [] => by rw [List.nil_append, getK_cons, getK_nil]; rfl
  | (a, x) :: r => by
    rw [List.cons_append, getK_cons, getK_cons, getK_end k v k' r]
    by_cases h : a = k' <;> simp [h]
theorem getK_put (kvs : List (Key × D)) (k : Key) (v : D) (k' : Key) : getK (putD kvs k v) k' = if k' = k then some v else getK kvs k' := by
  unfold putD
  rw [getK_any]
  cases e : getK kvs k with
  | some w =>
    rw [if_pos (show (some w).isSome = true from rfl), getK_upd, e]
    rfl
  | none =>
    rw [if_neg (by simp), getK_end]
    by_cases h : k' = k
    · subst h; rw [e, if_pos rfl]; simp
    · rw [if_neg h, if_neg (Ne.symm h)]; simp
theorem getK_drop (k k' : Key) : ∀ kvs : List (Key × D), getK (dropD kvs k) k' = if k' = k then none else getK kvs k'
  | [] => by simp [dropD, getK]
  | (a, x) :: r => by
    have ih := getK_drop k k' r
    unfold dropD at ih ⊢
    rw [List.filter_cons]
    by_cases h : a = k
    · subst h
      rw [if_neg (by simp), ih, getK_cons]
      by_cases h2 : k' = a
      · rw [if_pos h2, if_pos h2]
      · rw [if_neg h2, if_neg h2, if_neg (Ne.symm h2)]
    · rw [if_pos (by simpa using h), getK_cons, ih, getK_cons]
      by_cases h2 : k' = k
      · subst h2; rw [if_neg h, if_pos rfl, if_pos rfl]
      · rw [if_neg h2, if_neg h2]
theorem drop_len (kvs : List (Key × D)) (k : Key) : (dropD kvs k).length ≤ kvs.length := List.length_filter_le _ _
theorem rL_rK {xs : List D} {kvs : List (Key × D)} (h : rL xs = rK kvs) : False := by
  have := congrArg Ob.raw h
  rw [raw_L, raw_K] at this
  cases this
theorem rL_ob {xs : List D} {c : String} {fs : List (Str × FV)} (hc : c ≠ "") (h : rL xs = ⟨c, fs⟩) : False := by
  have h : (Str.ofString "") = Str.ofString c := congrArg Ob.cls h
  rw [ofString_inj] at h
  exact hc h.symm
theorem rK_ob {xs : List (Key × D)} {c : String} {fs : List (Str × FV)} (hc : c ≠ "") (h : rK xs = ⟨c, fs⟩) : False := by
  have h : (Str.ofString "") = Str.ofString c := congrArg Ob.cls h
  rw [ofString_inj] at h
  exact hc h.symm
theorem two_at {S : Store} {i j : Nat} {a b : Ob} (h1 : S[i]? = some a) (h2 : S[j]? = some b) (ne : a = b → False) : i ≠ j := fun e => by
  subst e
  rw [h1] at h2
  cases h2
  exact ne rfl
/-- a walk over a list object that stays as it is -/
theorem forR_inv {α : Type} {body : En → M Fl} {b : D → En → Option En} {g : Nat} (enc : α → D) (xs : List α) (I : Nat → En → Store → Prop) (hI : ∀ i env S, I i env S → S[g]? = some (rL (xs.map enc))) (Post : Fl → Store → Prop)
    (hd : ∀ env S, I xs.length env S → Post (.nx env) S)
    (hs : ∀ i x env S, xs[i]? = some x → I i env S → ∃ env1, b (enc x) env = some env1 ∧ ∃ fl S', body env1 S = .ok fl S' ∧ match fl with
      | .nx e => I (i + 1) e S'
      | .ct e => I (i + 1) e S'
      | .bk e => Post (.nx e) S'
      | o => Post o S') : ∀ n i env S, i ≤ xs.length → xs.length < i + n → I i env S → ∃ fl S', forR body b (.obj g) n i env S = .ok fl S' ∧ Post fl S'
  | 0, i, env, S, h1, h2, _ => by omega
  | n + 1, i, env, S, h1, h2, h => by
    unfold forR
    rw [onL_obj, hI i env S h]
    dsimp only
    rw [raw_L]
    dsimp only
    rw [List.getElem?_map]
    cases e : xs[i]? with
    | none =>
      have : i = xs.length := by
        have := List.getElem?_eq_none_iff.mp e
        omega
      subst this
      exact ⟨_, _, rfl, hd env S h⟩
    | some x =>
      obtain ⟨env1, e1, fl, S', e2, e3⟩ := hs i x env S e h
      have hi : i < xs.length := (List.getElem?_eq_some_iff.mp e).1
      dsimp only [Option.map_some]
      rw [e1]
      dsimp only
      rw [bind_S, e2, bindR_ok]
      cases fl with
      | nx e' => exact forR_inv enc xs I hI Post hd hs n (i + 1) e' S' hi (by omega) e3
      | ct e' => exact forR_inv enc xs I hI Post hd hs n (i + 1) e' S' hi (by omega) e3
      | bk e' => exact ⟨_, _, rfl, e3⟩
      | rt d => exact ⟨_, _, rfl, e3⟩
      | rtO d => exact ⟨_, _, rfl, e3⟩
      | ex c e' => exact ⟨_, _, rfl, e3⟩
end Dn

namespace Law
open PySem L2 Dn PyProof.Rows
/-! ### the text: scopes, denotations (printed by gen.py) -/
def top (i : Nat) : Stmt := PySem.Challenge.pw_taskheart_k04_shown_and_read.main.body.getD i (.Pass ⟨0, 0, 0, 0⟩)
def inClass : Stmt → Nat → Stmt
  | .ClassDef _ _ _ body _ _ _ _ _ _ _, j => body.getD j (.Pass ⟨0, 0, 0, 0⟩)
  | st, _ => st
abbrev st_is_letter : Stmt := (top 16)
abbrev N_is_letter : List Str := ["sign"]
theorem sc_is_letter : FnScope N_is_letter ["sign"] (defScope st_is_letter) := ⟨rfl, rfl, rfl, by decide +kernel, rfl, by decide +kernel, by decide +kernel⟩
abbrev st_is_figure : Stmt := (top 17)
abbrev N_is_figure : List Str := ["sign"]
theorem sc_is_figure : FnScope N_is_figure ["sign"] (defScope st_is_figure) := ⟨rfl, rfl, rfl, by decide +kernel, rfl, by decide +kernel, by decide +kernel⟩
abbrev st_is_name : Stmt := (top 18)
abbrev N_is_name : List Str := ["text", "sign"]
theorem sc_is_name : FnScope N_is_name ["text"] (defScope st_is_name) := ⟨rfl, rfl, rfl, by decide +kernel, rfl, by decide +kernel, by decide +kernel⟩
abbrev st_is_word : Stmt := (top 19)
abbrev N_is_word : List Str := ["text", "sign"]
theorem sc_is_word : FnScope N_is_word ["text"] (defScope st_is_word) := ⟨rfl, rfl, rfl, by decide +kernel, rfl, by decide +kernel, by decide +kernel⟩
abbrev st_is_number : Stmt := (top 22)
abbrev N_is_number : List Str := ["part", "low"]
theorem sc_is_number : FnScope N_is_number ["part", "low"] (defScope st_is_number) := ⟨rfl, rfl, rfl, by decide +kernel, rfl, by decide +kernel, by decide +kernel⟩
abbrev st_is_named : Stmt := (top 23)
abbrev N_is_named : List Str := ["part"]
theorem sc_is_named : FnScope N_is_named ["part"] (defScope st_is_named) := ⟨rfl, rfl, rfl, by decide +kernel, rfl, by decide +kernel, by decide +kernel⟩
abbrev st_is_pair : Stmt := (top 24)
abbrev N_is_pair : List Str := ["step"]
theorem sc_is_pair : FnScope N_is_pair ["step"] (defScope st_is_pair) := ⟨rfl, rfl, rfl, by decide +kernel, rfl, by decide +kernel, by decide +kernel⟩
abbrev st_is_triple : Stmt := (top 25)
abbrev N_is_triple : List Str := ["step"]
theorem sc_is_triple : FnScope N_is_triple ["step"] (defScope st_is_triple) := ⟨rfl, rfl, rfl, by decide +kernel, rfl, by decide +kernel, by decide +kernel⟩
abbrev st_is_step : Stmt := (top 26)
abbrev N_is_step : List Str := ["step"]
theorem sc_is_step : FnScope N_is_step ["step"] (defScope st_is_step) := ⟨rfl, rfl, rfl, by decide +kernel, rfl, by decide +kernel, by decide +kernel⟩
abbrev st_shown_step : Stmt := (top 27)
abbrev N_shown_step : List Str := ["step", "part"]
theorem sc_shown_step : FnScope N_shown_step ["step"] (defScope st_shown_step) := ⟨rfl, rfl, rfl, by decide +kernel, rfl, by decide +kernel, by decide +kernel⟩
abbrev st_number_of : Stmt := (top 28)
abbrev N_number_of : List Str := ["word", "sign"]
theorem sc_number_of : FnScope N_number_of ["word"] (defScope st_number_of) := ⟨rfl, rfl, rfl, by decide +kernel, rfl, by decide +kernel, by decide +kernel⟩
abbrev st_read_step : Stmt := (top 29)
abbrev N_read_step : List Str := ["text", "words", "step"]
theorem sc_read_step : FnScope N_read_step ["text"] (defScope st_read_step) := ⟨rfl, rfl, rfl, by decide +kernel, rfl, by decide +kernel, by decide +kernel⟩
abbrev st_law_cell_at : Stmt := (top 31)
abbrev N_law_cell_at : List Str := ["script", "k"]
theorem sc_law_cell_at : FnScope N_law_cell_at ["script", "k"] (defScope st_law_cell_at) := ⟨rfl, rfl, rfl, by decide +kernel, rfl, by decide +kernel, by decide +kernel⟩
abbrev st_law_sign_by : Stmt := (top 32)
abbrev N_law_sign_by : List Str := ["cell", "some"]
theorem sc_law_sign_by : FnScope N_law_sign_by ["cell"] (defScope st_law_sign_by) := ⟨rfl, rfl, rfl, by decide +kernel, rfl, by decide +kernel, by decide +kernel⟩
abbrev st_law_name_by : Stmt := (top 33)
abbrev N_law_name_by : List Str := ["cell", "letters", "size", "place", "sign"]
theorem sc_law_name_by : FnScope N_law_name_by ["cell"] (defScope st_law_name_by) := ⟨rfl, rfl, rfl, by decide +kernel, rfl, by decide +kernel, by decide +kernel⟩
abbrev st_law_word_by : Stmt := (top 34)
abbrev N_law_word_by : List Str := ["cell", "some", "size", "place"]
theorem sc_law_word_by : FnScope N_law_word_by ["cell"] (defScope st_law_word_by) := ⟨rfl, rfl, rfl, by decide +kernel, rfl, by decide +kernel, by decide +kernel⟩
abbrev st_law_step_by : Stmt := (top 35)
abbrev N_law_step_by : List Str := ["cell", "way", "more"]
theorem sc_law_step_by : FnScope N_law_step_by ["cell"] (defScope st_law_step_by) := ⟨rfl, rfl, rfl, by decide +kernel, rfl, by decide +kernel, by decide +kernel⟩
abbrev st_law_line : Stmt := (top 36)
abbrev N_law_line : List Str := ["step", "line", "k"]
theorem sc_law_line : FnScope N_law_line ["step"] (defScope st_law_line) := ⟨rfl, rfl, rfl, by decide +kernel, rfl, by decide +kernel, by decide +kernel⟩
abbrev st_law_spoilt : Stmt := (top 37)
abbrev N_law_spoilt : List Str := ["line", "cell", "draw", "place", "sign", "words", "way", "tail", "odd"]
theorem sc_law_spoilt : FnScope N_law_spoilt ["line", "cell", "draw"] (defScope st_law_spoilt) := ⟨rfl, rfl, rfl, by decide +kernel, rfl, by decide +kernel, by decide +kernel⟩
abbrev st_law_name : Stmt := (top 38)
abbrev N_law_name : List Str := ["part", "letters", "sign"]
theorem sc_law_name : FnScope N_law_name ["part"] (defScope st_law_name) := ⟨rfl, rfl, rfl, by decide +kernel, rfl, by decide +kernel, by decide +kernel⟩
abbrev st_law_number : Stmt := (top 39)
abbrev N_law_number : List Str := ["part", "low", "sign"]
theorem sc_law_number : FnScope N_law_number ["part", "low"] (defScope st_law_number) := ⟨rfl, rfl, rfl, by decide +kernel, rfl, by decide +kernel, by decide +kernel⟩
abbrev st_law_due : Stmt := (top 40)
abbrev N_law_due : List Str := ["line", "words", "many"]
theorem sc_law_due : FnScope N_law_due ["line"] (defScope st_law_due) := ⟨rfl, rfl, rfl, by decide +kernel, rfl, by decide +kernel, by decide +kernel⟩
abbrev st_law_told : Stmt := (top 41)
abbrev N_law_told : List Str := ["line", "e", "others"]
theorem sc_law_told : FnScope N_law_told ["line"] (defScope st_law_told) := ⟨rfl, rfl, rfl, by decide +kernel, rfl, by decide +kernel, by decide +kernel⟩
abbrev st_law_alike : Stmt := (top 42)
abbrev N_law_alike : List Str := ["found", "due", "part"]
theorem sc_law_alike : FnScope N_law_alike ["found", "due"] (defScope st_law_alike) := ⟨rfl, rfl, rfl, by decide +kernel, rfl, by decide +kernel, by decide +kernel⟩
abbrev st_law : Stmt := (top 43)
abbrev N_law : List Str := ["script", "step", "line"]
theorem sc_law : FnScope N_law ["script"] (defScope st_law) := ⟨rfl, rfl, rfl, by decide +kernel, rfl, by decide +kernel, by decide +kernel⟩
def isa_HeartError : Str → Option Bool := fun c => if c = "NoStep" then some true else none
def kis_NoTask : Str → Option Bool := fun c => if c = "NoStep" then some false else none
def kis_NoPlan : Str → Option Bool := fun c => if c = "NoStep" then some false else none
def kis_Known : Str → Option Bool := fun c => if c = "NoStep" then some false else none
def kis_Unknown : Str → Option Bool := fun c => if c = "NoStep" then some false else none
def kis_NoTime : Str → Option Bool := fun c => if c = "NoStep" then some false else none
def kis_Taken : Str → Option Bool := fun c => if c = "NoStep" then some false else none
def kis_Free : Str → Option Bool := fun c => if c = "NoStep" then some false else none
def kis_Knot : Str → Option Bool := fun c => if c = "NoStep" then some false else none
def kis_Strange : Str → Option Bool := fun c => if c = "NoStep" then some false else none
def kis_FullBox : Str → Option Bool := fun c => if c = "NoStep" then some false else none
def kis_NoStep : Str → Option Bool := fun c => if c = "NoStep" then some true else none
def kis_ValueError : Str → Option Bool := fun c => if c = "NoStep" then some true else none
def kis_NoTask_NoPlan_Known_Unknown_NoTime_Taken_Free_Knot_Strange_FullBox : Str → Option Bool := fun c => if c = "NoStep" then some false else none
def dn_is_letter : En → M Fl := sRet (eAndD (eBin (obl leD) (eC (.int 97)) (eCall ordO (aCons (eVar 0) (aNil)))) (eBin (obl leD) (eCall ordO (aCons (eVar 0) (aNil))) (eC (.int 122))))
def fn_is_letter : Fn := fnD 1 dn_is_letter
def dn_is_figure : En → M Fl := sRet (eAndD (eBin (obl leD) (eC (.int 48)) (eCall ordO (aCons (eVar 0) (aNil)))) (eBin (obl leD) (eCall ordO (aCons (eVar 0) (aNil))) (eC (.int 57))))
def fn_is_figure : Fn := fnD 1 dn_is_figure
def dn_is_name : En → M Fl := sCons (sIf (tOrD (tBin eqD (eVar 0) (eC (.str ""))) (tOrD (tBin gtD (eCall lenO (aCons (eVar 0) (aNil))) (eC (.int 8))) (tNotD (tValD (eFn (fn_is_letter) (aCons (eBin ixD (eVar 0) (eC (.int 0))) (aNil))))))) (sRet (eC (.bl false))) (sNil)) (sRet (eCall allO (aCons (eO (oLc (iA (eVar 0)) (bName 1) (tYesD) (eOrD (eFn (fn_is_letter) (aCons (eVar 1) (aNil))) (eFn (fn_is_figure) (aCons (eVar 1) (aNil)))) [1])) (aNil))))
def fn_is_name : Fn := fnD 2 dn_is_name
def dn_is_word : En → M Fl := sCons (sIf (tOrD (tBin eqD (eVar 0) (eC (.str ""))) (tBin gtD (eCall lenO (aCons (eVar 0) (aNil))) (eC (.int 12)))) (sRet (eC (.bl false))) (sNil)) (sRet (eCall allO (aCons (eO (oLc (iA (eVar 0)) (bName 1) (tYesD) (eAndD (eBin (obl leD) (eC (.int 33)) (eCall ordO (aCons (eVar 1) (aNil)))) (eAndD (eBin (obl leD) (eCall ordO (aCons (eVar 1) (aNil))) (eC (.int 126))) (eBin (obl neD) (eCall ordO (aCons (eVar 1) (aNil))) (eC (.int 37))))) [1])) (aNil))))
def fn_is_word : Fn := fnD 2 dn_is_word
def dn_is_number : En → M Fl := sRet (eAndD (isiO "int" (eVar 0)) (eAndD (eBin (obl leD) (eVar 1) (eVar 0)) (eBin (obl leD) (eVar 0) (eC (.int 1000)))))
def fn_is_number : Fn := fnD 2 dn_is_number
def dn_is_named : En → M Fl := sRet (eAndD (isiO "str" (eVar 0)) (eFn (fn_is_name) (aCons (eVar 0) (aNil))))
def fn_is_named : Fn := fnD 1 dn_is_named
def dn_is_pair : En → M Fl := sCons (sIf (tOrD (tBin eqD (eBin ixD (eVar 0) (eC (.int 0))) (eC (.str "work"))) (tBin eqD (eBin ixD (eVar 0) (eC (.int 0))) (eC (.str "sleep")))) (sRet (eFn (fn_is_number) (aCons (eBin ixD (eVar 0) (eC (.int 1))) (aCons (eC (.int 1)) (aNil))))) (sNil)) (sCons (sIf (tBin eqD (eBin ixD (eVar 0) (eC (.int 0))) (eC (.str "receive"))) (sRet (eFn (fn_is_number) (aCons (eBin ixD (eVar 0) (eC (.int 1))) (aCons (eC (.int 0)) (aNil))))) (sNil)) (sCons (sIf (tOrD (tBin eqD (eBin ixD (eVar 0) (eC (.int 0))) (eC (.str "take"))) (tOrD (tBin eqD (eBin ixD (eVar 0) (eC (.int 0))) (eC (.str "give"))) (tBin eqD (eBin ixD (eVar 0) (eC (.int 0))) (eC (.str "ring"))))) (sRet (eFn (fn_is_named) (aCons (eBin ixD (eVar 0) (eC (.int 1))) (aNil)))) (sNil)) (sRet (eC (.bl false)))))
def fn_is_pair : Fn := fnD 1 dn_is_pair
def dn_is_triple : En → M Fl := sCons (sIf (tBin eqD (eBin ixD (eVar 0) (eC (.int 0))) (eC (.str "wait"))) (sRet (eAndD (eFn (fn_is_named) (aCons (eBin ixD (eVar 0) (eC (.int 1))) (aNil))) (eFn (fn_is_number) (aCons (eBin ixD (eVar 0) (eC (.int 2))) (aCons (eC (.int 0)) (aNil)))))) (sNil)) (sCons (sIf (tBin eqD (eBin ixD (eVar 0) (eC (.int 0))) (eC (.str "send"))) (sRet (eAndD (eFn (fn_is_named) (aCons (eBin ixD (eVar 0) (eC (.int 1))) (aNil))) (eAndD (isiO "str" (eBin ixD (eVar 0) (eC (.int 2)))) (eFn (fn_is_word) (aCons (eBin ixD (eVar 0) (eC (.int 2))) (aNil)))))) (sNil)) (sRet (eC (.bl false))))
def fn_is_triple : Fn := fnD 1 dn_is_triple
def dn_is_step : En → M Fl := sCons (sIf (tBin eqD (eCall lenO (aCons (eVar 0) (aNil))) (eC (.int 1))) (sRet (eBin (obl eqD) (eBin ixD (eVar 0) (eC (.int 0))) (eC (.str "again")))) (sNil)) (sCons (sIf (tBin eqD (eCall lenO (aCons (eVar 0) (aNil))) (eC (.int 2))) (sRet (eFn (fn_is_pair) (aCons (eVar 0) (aNil)))) (sNil)) (sCons (sIf (tBin eqD (eCall lenO (aCons (eVar 0) (aNil))) (eC (.int 3))) (sRet (eFn (fn_is_triple) (aCons (eVar 0) (aNil)))) (sNil)) (sRet (eC (.bl false)))))
def fn_is_step : Fn := fnD 1 dn_is_step
def dn_shown_step : En → M Fl := sRet (eM1 joinO (eC (.str " ")) (eO (oLc (iA (eVar 0)) (bName 1) (tYesD) (eCall strO (aCons (eVar 1) (aNil))) [1])))
def fn_shown_step : Fn := fnD 2 dn_shown_step
def dn_number_of : En → M Fl := sCons (sIf (tOrD (tBin eqD (eVar 0) (eC (.str ""))) (tOrD (tBin gtD (eCall lenO (aCons (eVar 0) (aNil))) (eCall lenO (aCons (eCall strO (aCons (eC (.int 1000)) (aNil))) (aNil)))) (tAndD (tBin eqD (eBin ixD (eVar 0) (eC (.int 0))) (eC (.str "0"))) (tBin gtD (eCall lenO (aCons (eVar 0) (aNil))) (eC (.int 1)))))) (sRaise "NoStep") (sNil)) (sCons (sFor (iA (eVar 0)) (bName 1) (sIf (tNotD (tValD (eFn (fn_is_figure) (aCons (eVar 1) (aNil))))) (sRaise "NoStep") (sNil))) (sRet (eCall intO (aCons (eVar 0) (aNil)))))
def fn_number_of : Fn := fnD 2 dn_number_of
def dn_read_step : En → M Fl := sCons (sSet 1 (eO (oSplit (eVar 0) (eC (.str " "))))) (sCons (sSet 2 (eTupF (eVar 1))) (sCons (sIf (tAndD (tBin eqD (eCall lenO (aCons (eVar 1) (aNil))) (eC (.int 2))) (tBin inD (eBin ixD (eVar 1) (eC (.int 0))) (eTup (aCons (eC (.str "work")) (aCons (eC (.str "sleep")) (aCons (eC (.str "receive")) (aNil))))))) (sSet 2 (eTup (aCons (eBin ixD (eVar 1) (eC (.int 0))) (aCons (eFn (fn_number_of) (aCons (eBin ixD (eVar 1) (eC (.int 1))) (aNil))) (aNil))))) (sNil)) (sCons (sIf (tAndD (tBin eqD (eCall lenO (aCons (eVar 1) (aNil))) (eC (.int 3))) (tBin eqD (eBin ixD (eVar 1) (eC (.int 0))) (eC (.str "wait")))) (sSet 2 (eTup (aCons (eBin ixD (eVar 1) (eC (.int 0))) (aCons (eBin ixD (eVar 1) (eC (.int 1))) (aCons (eFn (fn_number_of) (aCons (eBin ixD (eVar 1) (eC (.int 2))) (aNil))) (aNil)))))) (sNil)) (sCons (sIf (tNotD (tValD (eFn (fn_is_step) (aCons (eVar 2) (aNil))))) (sRaise "NoStep") (sNil)) (sRet (eVar 2))))))
def fn_read_step : Fn := fnD 3 dn_read_step
def dn_law_cell_at : En → M Fl := sCons (sIf (tBin ltD (eVar 1) (eCall lenO (aCons (eVar 0) (aNil)))) (sRet (eBin ixD (eVar 0) (eVar 1))) (sNil)) (sRet (eC (.int 0)))
def fn_law_cell_at : Fn := fnD 2 dn_law_cell_at
def dn_law_sign_by : En → M Fl := sCons (sSet 1 (eC (.str " !\"#$&'()*+,-./0123456789:;<=>?@ABCDEFGHIJKLMNOPQRSTUVWXYZ[\\]^_`"))) (sCons (sSet 1 (eBin addD (eVar 1) (eC (.str "abcdefghijklmnopqrstuvwxyz{|}~\n\t")))) (sRet (eBin ixD (eVar 1) (eBin modD (eVar 0) (eC (.int 96))))))
def fn_law_sign_by : Fn := fnD 2 dn_law_sign_by
def dn_law_name_by : En → M Fl := sCons (sSet 1 (eC (.str "abcdefghijklmnopqrstuvwxyz0123456789"))) (sCons (sSet 2 (eBin addD (eC (.int 1)) (eBin modD (eVar 0) (eC (.int 8))))) (sCons (sSet 3 (eBin modD (eBin divD (eVar 0) (eC (.int 8))) (eVar 2))) (sCons (sSet 4 (eBin ixD (eVar 1) (eBin modD (eBin divD (eVar 0) (eC (.int 64))) (eC (.int 36))))) (sCons (sIf (tBin eqD (eVar 3) (eC (.int 0))) (sSet 4 (eBin ixD (eVar 1) (eBin modD (eBin divD (eVar 0) (eC (.int 64))) (eC (.int 26))))) (sNil)) (sRet (eBin addD (eBin addD (eBin mulD (eC (.str "k")) (eVar 3)) (eVar 4)) (eBin mulD (eC (.str "k")) (eBin subD (eBin subD (eVar 2) (eC (.int 1))) (eVar 3)))))))))
def fn_law_name_by : Fn := fnD 5 dn_law_name_by
def dn_law_word_by : En → M Fl := sCons (sSet 1 (eC (.str "!\"#$&'()*+,-./0123456789:;<=>?@ABCDEFGHIJKLMNOPQRSTUVWXYZ[\\]^_`"))) (sCons (sSet 1 (eBin addD (eVar 1) (eC (.str "abcdefghijklmnopqrstuvwxyz{|}~")))) (sCons (sSet 2 (eBin addD (eC (.int 1)) (eBin modD (eVar 0) (eC (.int 12))))) (sCons (sSet 3 (eBin modD (eBin divD (eVar 0) (eC (.int 12))) (eVar 2))) (sRet (eBin addD (eBin addD (eBin mulD (eC (.str "w")) (eVar 3)) (eBin ixD (eVar 1) (eBin modD (eBin divD (eVar 0) (eC (.int 144))) (eC (.int 93))))) (eBin mulD (eC (.str "w")) (eBin subD (eBin subD (eVar 2) (eC (.int 1))) (eVar 3))))))))
def fn_law_word_by : Fn := fnD 4 dn_law_word_by
def dn_law_step_by : En → M Fl := sCons (sSet 1 (eBin modD (eVar 0) (eC (.int 9)))) (sCons (sSet 2 (eBin divD (eVar 0) (eC (.int 9)))) (sCons (sIf (tBin ltD (eVar 1) (eC (.int 2))) (sRet (eTup (aCons (eC (.str "work")) (aCons (eBin addD (eC (.int 1)) (eBin modD (eVar 2) (eC (.int 1000)))) (aNil))))) (sNil)) (sCons (sIf (tBin eqD (eVar 1) (eC (.int 2))) (sRet (eTup (aCons (eC (.str "sleep")) (aCons (eBin addD (eC (.int 1)) (eBin modD (eVar 2) (eC (.int 1000)))) (aNil))))) (sNil)) (sCons (sIf (tBin eqD (eVar 1) (eC (.int 3))) (sRet (eTup (aCons (eC (.str "wait")) (aCons (eFn (fn_law_name_by) (aCons (eBin divD (eVar 2) (eC (.int 1001))) (aNil))) (aCons (eBin modD (eVar 2) (eC (.int 1001))) (aNil)))))) (sNil)) (sCons (sIf (tBin eqD (eVar 1) (eC (.int 4))) (sRet (eTup (aCons (eC (.str "send")) (aCons (eFn (fn_law_name_by) (aCons (eBin modD (eVar 2) (eC (.int 2304))) (aNil))) (aCons (eFn (fn_law_word_by) (aCons (eBin divD (eVar 2) (eC (.int 2304))) (aNil))) (aNil)))))) (sNil)) (sCons (sIf (tBin eqD (eVar 1) (eC (.int 5))) (sRet (eTup (aCons (eC (.str "receive")) (aCons (eBin modD (eVar 2) (eC (.int 1001))) (aNil))))) (sNil)) (sCons (sIf (tBin eqD (eVar 1) (eC (.int 6))) (sRet (eTup (aCons (eC (.str "again")) (aNil)))) (sNil)) (sRet (eTup (aCons (eBin ixD (eBin ixD (eO (eLst (aCons (eO (eLst (aCons (eC (.str "take")) (aCons (eC (.str "give")) (aNil))))) (aCons (eO (eLst (aCons (eC (.str "ring")) (aCons (eC (.str "take")) (aNil))))) (aNil))))) (eBin subD (eVar 1) (eC (.int 7)))) (eBin modD (eVar 2) (eC (.int 2)))) (aCons (eFn (fn_law_name_by) (aCons (eBin divD (eVar 2) (eC (.int 2))) (aNil))) (aNil))))))))))))
def fn_law_step_by : Fn := fnD 3 dn_law_step_by
def dn_law_line : En → M Fl := sCons (sSet 1 (eBin ixD (eVar 0) (eC (.int 0)))) (sCons (sFor (iR2 (eC (.int 1)) (eCall lenO (aCons (eVar 0) (aNil)))) (bName 2) (sSet 1 (eBin addD (eBin addD (eVar 1) (eC (.str " "))) (eCall strO (aCons (eBin ixD (eVar 0) (eVar 2)) (aNil)))))) (sRet (eVar 1)))
def fn_law_line : Fn := fnD 3 dn_law_line
def dn_law_spoilt : En → M Fl := sCons (sSet 3 (eBin modD (eVar 1) (eBin addD (eCall lenO (aCons (eVar 0) (aNil))) (eC (.int 1))))) (sCons (sSet 4 (eFn (fn_law_sign_by) (aCons (eBin divD (eVar 1) (eC (.int 50))) (aNil)))) (sCons (sSet 5 (eO (oSplit (eVar 0) (eC (.str " "))))) (sCons (sSet 6 (eBin modD (eVar 2) (eC (.int 10)))) (sCons (sIf (tBin ltD (eVar 6) (eC (.int 3))) (sCons (sSet 7 (eSlA (eVar 0) (oPart (some (eBin addD (eVar 3) (eC (.int 1))))) (oPart none))) (sRet (eBin ixD (eO (eLst (aCons (eBin addD (eBin addD (eSlA (eVar 0) (oPart none) (oPart (some (eVar 3)))) (eVar 4)) (eSlA (eVar 0) (oPart (some (eVar 3))) (oPart none))) (aCons (eBin addD (eSlA (eVar 0) (oPart none) (oPart (some (eVar 3)))) (eVar 7)) (aCons (eBin addD (eBin addD (eSlA (eVar 0) (oPart none) (oPart (some (eVar 3)))) (eVar 4)) (eVar 7)) (aNil)))))) (eVar 6)))) (sNil)) (sCons (sIf (tBin ltD (eVar 6) (eC (.int 6))) (sRet (eBin ixD (eO (eLst (aCons (eBin addD (eBin addD (eVar 0) (eC (.str " "))) (eBin ixD (eVar 5) (eNegD (eC (.int 1))))) (aCons (eM1 joinO (eC (.str " ")) (eSlA (eVar 5) (oPart none) (oPart (some (eNegD (eC (.int 1))))))) (aCons (eM1 joinO (eC (.str " ")) (eBin addD (eSlA (eVar 5) (oPart none) (oPart (some (eNegD (eC (.int 1)))))) (eO (eLst (aCons (eBin addD (eC (.str "0")) (eBin ixD (eVar 5) (eNegD (eC (.int 1))))) (aNil)))))) (aNil)))))) (eBin subD (eVar 6) (eC (.int 3))))) (sNil)) (sCons (sIf (tBin ltD (eVar 6) (eC (.int 9))) (sRet (eBin ixD (eO (eLst (aCons (eM1 joinO (eC (.str " ")) (eBin addD (eSlA (eVar 5) (oPart none) (oPart (some (eNegD (eC (.int 1)))))) (eO (eLst (aCons (eBin addD (eC (.str "+")) (eBin ixD (eVar 5) (eNegD (eC (.int 1))))) (aNil)))))) (aCons (eM1 joinO (eC (.str " ")) (eBin addD (eSlA (eVar 5) (oPart none) (oPart (some (eNegD (eC (.int 1)))))) (eO (eLst (aCons (eC (.str "1001")) (aNil)))))) (aCons (eUp (eVar 0)) (aNil)))))) (eBin subD (eVar 6) (eC (.int 6))))) (sNil)) (sCons (sSet 8 (eO (eLst (aCons (eC (.str "")) (aCons (eC (.str " ")) (aCons (eC (.str "work")) (aCons (eC (.str "again ")) (aCons (eC (.str " again")) (aCons (eC (.str "work 0")) (aCons (eC (.str "sleep 0")) (aCons (eC (.str "wait k")) (aCons (eC (.str "receive -1")) (aNil))))))))))))) (sRet (eBin ixD (eBin addD (eVar 8) (eO (eLst (aCons (eC (.str "work 1_0")) (aCons (eC (.str "take 9k")) (aCons (eC (.str "send k")) (aNil))))))) (eBin modD (eBin divD (eVar 2) (eC (.int 10))) (eC (.int 12))))))))))))
def fn_law_spoilt : Fn := fnD 9 dn_law_spoilt
def dn_law_name : En → M Fl := sCons (sSet 1 (eC (.str "abcdefghijklmnopqrstuvwxyz"))) (sCons (sIf (tOrD (tBin eqD (eVar 0) (eC (.str ""))) (tOrD (tBin gtD (eCall lenO (aCons (eVar 0) (aNil))) (eC (.int 8))) (tBin ninD (eBin ixD (eVar 0) (eC (.int 0))) (eVar 1)))) (sRet (eC (.bl false))) (sNil)) (sRet (eBin (obl eqD) (eCall lenO (aCons (eO (oLc (iA (eVar 0)) (bName 2) (tBin ninD (eVar 2) (eBin addD (eVar 1) (eC (.str "0123456789")))) (eVar 2) [2])) (aNil))) (eC (.int 0)))))
def fn_law_name : Fn := fnD 3 dn_law_name
def dn_law_number : En → M Fl := sCons (sIf (tOrD (tBin eqD (eVar 0) (eC (.str ""))) (tOrD (tBin gtD (eCall lenO (aCons (eVar 0) (aNil))) (eC (.int 4))) (tBin gtD (eCall lenO (aCons (eO (oLc (iA (eVar 0)) (bName 2) (tBin ninD (eVar 2) (eC (.str "0123456789"))) (eVar 2) [2])) (aNil))) (eC (.int 0))))) (sRet (eNegD (eC (.int 1)))) (sNil)) (sCons (sIf (tOrD (tAndD (tBin gtD (eCall lenO (aCons (eVar 0) (aNil))) (eC (.int 1))) (tBin eqD (eBin ixD (eVar 0) (eC (.int 0))) (eC (.str "0")))) (tOrD (tBin ltD (eCall intO (aCons (eVar 0) (aNil))) (eVar 1)) (tBin gtD (eCall intO (aCons (eVar 0) (aNil))) (eC (.int 1000))))) (sRet (eNegD (eC (.int 1)))) (sNil)) (sRet (eCall intO (aCons (eVar 0) (aNil)))))
def fn_law_number : Fn := fnD 3 dn_law_number
def dn_law_due : En → M Fl := sCons (sSet 1 (eO (oSplit (eVar 0) (eC (.str " "))))) (sCons (sIf (tBin eqD (eVar 1) (eO (eLst (aCons (eC (.str "again")) (aNil))))) (sRet (eTup (aCons (eC (.str "again")) (aNil)))) (sNil)) (sCons (sIf (tAndD (tBin eqD (eCall lenO (aCons (eVar 1) (aNil))) (eC (.int 2))) (tBin inD (eBin ixD (eVar 1) (eC (.int 0))) (eTup (aCons (eC (.str "work")) (aCons (eC (.str "sleep")) (aCons (eC (.str "receive")) (aNil))))))) (sCons (sSet 2 (eFn (fn_law_number) (aCons (eBin ixD (eVar 1) (eC (.int 1))) (aCons (eCall intO (aCons (eBin (obl neD) (eBin ixD (eVar 1) (eC (.int 0))) (eC (.str "receive"))) (aNil))) (aNil))))) (sRet (eIfD (tBin geD (eVar 2) (eC (.int 0))) (eTup (aCons (eBin ixD (eVar 1) (eC (.int 0))) (aCons (eVar 2) (aNil)))) (eC .non)))) (sNil)) (sCons (sIf (tAndD (tBin eqD (eCall lenO (aCons (eVar 1) (aNil))) (eC (.int 2))) (tAndD (tBin inD (eBin ixD (eVar 1) (eC (.int 0))) (eTup (aCons (eC (.str "take")) (aCons (eC (.str "give")) (aCons (eC (.str "ring")) (aNil)))))) (tValD (eFn (fn_law_name) (aCons (eBin ixD (eVar 1) (eC (.int 1))) (aNil)))))) (sRet (eTup (aCons (eBin ixD (eVar 1) (eC (.int 0))) (aCons (eBin ixD (eVar 1) (eC (.int 1))) (aNil))))) (sNil)) (sCons (sIf (tAndD (tBin eqD (eCall lenO (aCons (eVar 1) (aNil))) (eC (.int 3))) (tAndD (tBin eqD (eBin ixD (eVar 1) (eC (.int 0))) (eC (.str "wait"))) (tAndD (tValD (eFn (fn_law_name) (aCons (eBin ixD (eVar 1) (eC (.int 1))) (aNil)))) (tBin geD (eFn (fn_law_number) (aCons (eBin ixD (eVar 1) (eC (.int 2))) (aCons (eC (.int 0)) (aNil)))) (eC (.int 0)))))) (sRet (eTup (aCons (eBin ixD (eVar 1) (eC (.int 0))) (aCons (eBin ixD (eVar 1) (eC (.int 1))) (aCons (eFn (fn_law_number) (aCons (eBin ixD (eVar 1) (eC (.int 2))) (aCons (eC (.int 0)) (aNil)))) (aNil)))))) (sNil)) (sCons (sIf (tAndD (tBin eqD (eCall lenO (aCons (eVar 1) (aNil))) (eC (.int 3))) (tAndD (tBin eqD (eBin ixD (eVar 1) (eC (.int 0))) (eC (.str "send"))) (tAndD (tValD (eFn (fn_law_name) (aCons (eBin ixD (eVar 1) (eC (.int 1))) (aNil)))) (tAndD (tBin leD (eC (.int 1)) (eCall lenO (aCons (eBin ixD (eVar 1) (eC (.int 2))) (aNil)))) (tBin leD (eCall lenO (aCons (eBin ixD (eVar 1) (eC (.int 2))) (aNil))) (eC (.int 12))))))) (sRet (eIfD (tOrD (tBin inD (eC (.str "\n")) (eBin ixD (eVar 1) (eC (.int 2)))) (tBin inD (eC (.str "\t")) (eBin ixD (eVar 1) (eC (.int 2))))) (eC .non) (eTup (aCons (eBin ixD (eVar 1) (eC (.int 0))) (aCons (eBin ixD (eVar 1) (eC (.int 1))) (aCons (eBin ixD (eVar 1) (eC (.int 2))) (aNil))))))) (sNil)) (sRet (eC .non)))))))
def fn_law_due : Fn := fnD 3 dn_law_due
noncomputable def dn_law_told : En → M Fl := sTryAs 1 isa_HeartError (sRet (eFn (fn_read_step) (aCons (eVar 0) (aNil)))) (fun a c => sCons (sSet 2 (eIsE 1 a (kis_NoTask_NoPlan_Known_Unknown_NoTime_Taken_Free_Knot_Strange_FullBox c))) (sRet (eIfD (tAndD (tValD (eIsE 1 a (kis_NoStep c))) (tAndD (tValD (eIsE 1 a (kis_ValueError c))) (tNotD (tValD (eVar 2))))) (eC (.str "refused")) (eC (.str "other")))))
noncomputable def fn_law_told : Fn := fnD 3 dn_law_told
def dn_law_alike : En → M Fl := sCons (sIf (tBin isD (eVar 1) (eC .non)) (sRet (eBin (obl eqD) (eVar 0) (eC (.str "refused")))) (sNil)) (sCons (sIf (tOrD (tNotD (tValD (isiO "tuple" (eVar 0)))) (tBin neD (eVar 0) (eVar 1))) (sRet (eC (.bl false))) (sNil)) (sRet (eBin (obl eqD) (eO (oLc (iA (eVar 0)) (bName 2) (tYesD) (isiO "str" (eVar 2)) [2])) (eO (oLc (iA (eVar 1)) (bName 2) (tYesD) (isiO "str" (eVar 2)) [2])))))
def fn_law_alike : Fn := fnD 3 dn_law_alike
noncomputable def dn_law : En → M Fl := sCons (sSet 1 (eFn (fn_law_step_by) (aCons (eFn (fn_law_cell_at) (aCons (eVar 0) (aCons (eC (.int 0)) (aNil)))) (aNil)))) (sCons (sSet 2 (eFn (fn_shown_step) (aCons (eVar 1) (aNil)))) (sCons (sIf (tOrD (tNotD (tValD (isiO "str" (eVar 2)))) (tBin neD (eVar 2) (eFn (fn_law_line) (aCons (eVar 1) (aNil))))) (sRet (eC (.bl false))) (sNil)) (sCons (sIf (tBin eqD (eBin modD (eFn (fn_law_cell_at) (aCons (eVar 0) (aCons (eC (.int 1)) (aNil)))) (eC (.int 2))) (eC (.int 1))) (sSet 2 (eFn (fn_law_spoilt) (aCons (eVar 2) (aCons (eFn (fn_law_cell_at) (aCons (eVar 0) (aCons (eC (.int 2)) (aNil)))) (aCons (eBin divD (eFn (fn_law_cell_at) (aCons (eVar 0) (aCons (eC (.int 1)) (aNil)))) (eC (.int 2))) (aNil)))))) (sNil)) (sCons (sIf (tOrD (tNotD (tValD (eFn (fn_law_alike) (aCons (eFn (fn_law_told) (aCons (eVar 2) (aNil))) (aCons (eFn (fn_law_due) (aCons (eVar 2) (aNil))) (aNil)))))) (tBin neD (eFn (fn_law_told) (aCons (eC (.str "again")) (aNil))) (eTup (aCons (eC (.str "again")) (aNil))))) (sRet (eC (.bl false))) (sNil)) (sRet (eAndD (eFn (fn_law_alike) (aCons (eFn (fn_law_told) (aCons (eVar 2) (aNil))) (aCons (eFn (fn_law_due) (aCons (eVar 2) (aNil))) (aNil)))) (eBin (obl eqD) (eFn (fn_shown_step) (aCons (eVar 1) (aNil))) (eFn (fn_law_line) (aCons (eVar 1) (aNil))))))))))
noncomputable def fn_law : Fn := fnD 3 dn_law
/-! ### what the top leaves -/
structure Tx (K : PySem.W.Frag) (mg : Str → Option Value) where
  ad : Str → Addr
  f_is_letter : Addr
  d_is_letter : FuncData
  F_is_letter : Fun K "is_letter" "is_letter" st_is_letter f_is_letter d_is_letter
  m_is_letter : mg "is_letter" = some (.ref f_is_letter)
  b_is_letter : Binds K d_is_letter ["sign"] []
  f_is_figure : Addr
  d_is_figure : FuncData
  F_is_figure : Fun K "is_figure" "is_figure" st_is_figure f_is_figure d_is_figure
  m_is_figure : mg "is_figure" = some (.ref f_is_figure)
  b_is_figure : Binds K d_is_figure ["sign"] []
  f_is_name : Addr
  d_is_name : FuncData
  F_is_name : Fun K "is_name" "is_name" st_is_name f_is_name d_is_name
  m_is_name : mg "is_name" = some (.ref f_is_name)
  b_is_name : Binds K d_is_name ["text"] []
  f_is_word : Addr
  d_is_word : FuncData
  F_is_word : Fun K "is_word" "is_word" st_is_word f_is_word d_is_word
  m_is_word : mg "is_word" = some (.ref f_is_word)
  b_is_word : Binds K d_is_word ["text"] []
  f_is_number : Addr
  d_is_number : FuncData
  F_is_number : Fun K "is_number" "is_number" st_is_number f_is_number d_is_number
  m_is_number : mg "is_number" = some (.ref f_is_number)
  b_is_number : Binds K d_is_number ["part", "low"] []
  f_is_named : Addr
  d_is_named : FuncData
  F_is_named : Fun K "is_named" "is_named" st_is_named f_is_named d_is_named
  m_is_named : mg "is_named" = some (.ref f_is_named)
  b_is_named : Binds K d_is_named ["part"] []
  f_is_pair : Addr
  d_is_pair : FuncData
  F_is_pair : Fun K "is_pair" "is_pair" st_is_pair f_is_pair d_is_pair
  m_is_pair : mg "is_pair" = some (.ref f_is_pair)
  b_is_pair : Binds K d_is_pair ["step"] []
  f_is_triple : Addr
  d_is_triple : FuncData
  F_is_triple : Fun K "is_triple" "is_triple" st_is_triple f_is_triple d_is_triple
  m_is_triple : mg "is_triple" = some (.ref f_is_triple)
  b_is_triple : Binds K d_is_triple ["step"] []
  f_is_step : Addr
  d_is_step : FuncData
  F_is_step : Fun K "is_step" "is_step" st_is_step f_is_step d_is_step
  m_is_step : mg "is_step" = some (.ref f_is_step)
  b_is_step : Binds K d_is_step ["step"] []
  f_shown_step : Addr
  d_shown_step : FuncData
  F_shown_step : Fun K "shown_step" "shown_step" st_shown_step f_shown_step d_shown_step
  m_shown_step : mg "shown_step" = some (.ref f_shown_step)
  b_shown_step : Binds K d_shown_step ["step"] []
  f_number_of : Addr
  d_number_of : FuncData
  F_number_of : Fun K "number_of" "number_of" st_number_of f_number_of d_number_of
  m_number_of : mg "number_of" = some (.ref f_number_of)
  b_number_of : Binds K d_number_of ["word"] []
  f_read_step : Addr
  d_read_step : FuncData
  F_read_step : Fun K "read_step" "read_step" st_read_step f_read_step d_read_step
  m_read_step : mg "read_step" = some (.ref f_read_step)
  b_read_step : Binds K d_read_step ["text"] []
  f_law_cell_at : Addr
  d_law_cell_at : FuncData
  F_law_cell_at : Fun K "_law_cell_at" "_law_cell_at" st_law_cell_at f_law_cell_at d_law_cell_at
  m_law_cell_at : mg "_law_cell_at" = some (.ref f_law_cell_at)
  b_law_cell_at : Binds K d_law_cell_at ["script", "k"] []
  f_law_sign_by : Addr
  d_law_sign_by : FuncData
  F_law_sign_by : Fun K "_law_sign_by" "_law_sign_by" st_law_sign_by f_law_sign_by d_law_sign_by
  m_law_sign_by : mg "_law_sign_by" = some (.ref f_law_sign_by)
  b_law_sign_by : Binds K d_law_sign_by ["cell"] []
  f_law_name_by : Addr
  d_law_name_by : FuncData
  F_law_name_by : Fun K "_law_name_by" "_law_name_by" st_law_name_by f_law_name_by d_law_name_by
  m_law_name_by : mg "_law_name_by" = some (.ref f_law_name_by)
  b_law_name_by : Binds K d_law_name_by ["cell"] []
  f_law_word_by : Addr
  d_law_word_by : FuncData
  F_law_word_by : Fun K "_law_word_by" "_law_word_by" st_law_word_by f_law_word_by d_law_word_by
  m_law_word_by : mg "_law_word_by" = some (.ref f_law_word_by)
  b_law_word_by : Binds K d_law_word_by ["cell"] []
  f_law_step_by : Addr
  d_law_step_by : FuncData
  F_law_step_by : Fun K "_law_step_by" "_law_step_by" st_law_step_by f_law_step_by d_law_step_by
  m_law_step_by : mg "_law_step_by" = some (.ref f_law_step_by)
  b_law_step_by : Binds K d_law_step_by ["cell"] []
  f_law_line : Addr
  d_law_line : FuncData
  F_law_line : Fun K "_law_line" "_law_line" st_law_line f_law_line d_law_line
  m_law_line : mg "_law_line" = some (.ref f_law_line)
  b_law_line : Binds K d_law_line ["step"] []
  f_law_spoilt : Addr
  d_law_spoilt : FuncData
  F_law_spoilt : Fun K "_law_spoilt" "_law_spoilt" st_law_spoilt f_law_spoilt d_law_spoilt
  m_law_spoilt : mg "_law_spoilt" = some (.ref f_law_spoilt)
  b_law_spoilt : Binds K d_law_spoilt ["line", "cell", "draw"] []
  f_law_name : Addr
  d_law_name : FuncData
  F_law_name : Fun K "_law_name" "_law_name" st_law_name f_law_name d_law_name
  m_law_name : mg "_law_name" = some (.ref f_law_name)
  b_law_name : Binds K d_law_name ["part"] []
  f_law_number : Addr
  d_law_number : FuncData
  F_law_number : Fun K "_law_number" "_law_number" st_law_number f_law_number d_law_number
  m_law_number : mg "_law_number" = some (.ref f_law_number)
  b_law_number : Binds K d_law_number ["part", "low"] []
  f_law_due : Addr
  d_law_due : FuncData
  F_law_due : Fun K "_law_due" "_law_due" st_law_due f_law_due d_law_due
  m_law_due : mg "_law_due" = some (.ref f_law_due)
  b_law_due : Binds K d_law_due ["line"] []
  f_law_told : Addr
  d_law_told : FuncData
  F_law_told : Fun K "_law_told" "_law_told" st_law_told f_law_told d_law_told
  m_law_told : mg "_law_told" = some (.ref f_law_told)
  b_law_told : Binds K d_law_told ["line"] []
  f_law_alike : Addr
  d_law_alike : FuncData
  F_law_alike : Fun K "_law_alike" "_law_alike" st_law_alike f_law_alike d_law_alike
  m_law_alike : mg "_law_alike" = some (.ref f_law_alike)
  b_law_alike : Binds K d_law_alike ["found", "due"] []
  f_law : Addr
  d_law : FuncData
  F_law : Fun K "law" "law" st_law f_law d_law
  m_law : mg "law" = some (.ref f_law)
  b_law : Binds K d_law ["script"] []
  n_ValueError : mg "ValueError" = none
  n_all : mg "all" = none
  n_int : mg "int" = none
  n_isinstance : mg "isinstance" = none
  n_len : mg "len" = none
  n_ord : mg "ord" = none
  n_range : mg "range" = none
  n_str : mg "str" = none
  n_tuple : mg "tuple" = none
  t_MOST_NAME : Tok
  c_MOST_NAME : mg "MOST_NAME" = some (.int 8 t_MOST_NAME)
  t_MOST_TURNS : Tok
  c_MOST_TURNS : mg "MOST_TURNS" = some (.int 1000 t_MOST_TURNS)
  t_MOST_WORD : Tok
  c_MOST_WORD : mg "MOST_WORD" = some (.int 12 t_MOST_WORD)
  ex_HeartError : ExOk K mg "HeartError" (ad "HeartError")
  ex_NoStep : ExOk K mg "NoStep" (ad "NoStep")
  ex_NoTask : ExOk K mg "NoTask" (ad "NoTask")
  ex_NoPlan : ExOk K mg "NoPlan" (ad "NoPlan")
  ex_Known : ExOk K mg "Known" (ad "Known")
  ex_Unknown : ExOk K mg "Unknown" (ad "Unknown")
  ex_NoTime : ExOk K mg "NoTime" (ad "NoTime")
  ex_Taken : ExOk K mg "Taken" (ad "Taken")
  ex_Free : ExOk K mg "Free" (ad "Free")
  ex_Knot : ExOk K mg "Knot" (ad "Knot")
  ex_Strange : ExOk K mg "Strange" (ad "Strange")
  ex_FullBox : ExOk K mg "FullBox" (ad "FullBox")
  xc_NoStep : ExcC K (ad "NoStep")
  s_NoStep_HeartError : PySem.W.subIn K (.ref (ad "NoStep")) (.ref (ad "HeartError")) = some true
  k_NoStep_NoTask : PySem.W.kitOne K (.ref (ad "NoStep")) (.ref (ad "NoTask")) = some false
  k_NoStep_NoPlan : PySem.W.kitOne K (.ref (ad "NoStep")) (.ref (ad "NoPlan")) = some false
  k_NoStep_Known : PySem.W.kitOne K (.ref (ad "NoStep")) (.ref (ad "Known")) = some false
  k_NoStep_Unknown : PySem.W.kitOne K (.ref (ad "NoStep")) (.ref (ad "Unknown")) = some false
  k_NoStep_NoTime : PySem.W.kitOne K (.ref (ad "NoStep")) (.ref (ad "NoTime")) = some false
  k_NoStep_Taken : PySem.W.kitOne K (.ref (ad "NoStep")) (.ref (ad "Taken")) = some false
  k_NoStep_Free : PySem.W.kitOne K (.ref (ad "NoStep")) (.ref (ad "Free")) = some false
  k_NoStep_Knot : PySem.W.kitOne K (.ref (ad "NoStep")) (.ref (ad "Knot")) = some false
  k_NoStep_Strange : PySem.W.kitOne K (.ref (ad "NoStep")) (.ref (ad "Strange")) = some false
  k_NoStep_FullBox : PySem.W.kitOne K (.ref (ad "NoStep")) (.ref (ad "FullBox")) = some false
  k_NoStep_NoStep : PySem.W.kitOne K (.ref (ad "NoStep")) (.ref (ad "NoStep")) = some true
  k_NoStep_ValueError : PySem.W.kitOne K (.ref (ad "NoStep")) (.type "ValueError") = some true
section
variable {K : PySem.W.Frag} {mg : Str → Option Value}
def Tx.ca (T : Tx K mg) : Ct := ⟨T.ad, K⟩
theorem Tx.mg_HeartError (T : Tx K mg) : mg "HeartError" = some (.ref (T.ad "HeartError")) := T.ex_HeartError.gC
theorem Tx.mg_NoStep (T : Tx K mg) : mg "NoStep" = some (.ref (T.ad "NoStep")) := T.ex_NoStep.gC
theorem Tx.mg_NoTask (T : Tx K mg) : mg "NoTask" = some (.ref (T.ad "NoTask")) := T.ex_NoTask.gC
theorem Tx.mg_NoPlan (T : Tx K mg) : mg "NoPlan" = some (.ref (T.ad "NoPlan")) := T.ex_NoPlan.gC
theorem Tx.mg_Known (T : Tx K mg) : mg "Known" = some (.ref (T.ad "Known")) := T.ex_Known.gC
theorem Tx.mg_Unknown (T : Tx K mg) : mg "Unknown" = some (.ref (T.ad "Unknown")) := T.ex_Unknown.gC
theorem Tx.mg_NoTime (T : Tx K mg) : mg "NoTime" = some (.ref (T.ad "NoTime")) := T.ex_NoTime.gC
theorem Tx.mg_Taken (T : Tx K mg) : mg "Taken" = some (.ref (T.ad "Taken")) := T.ex_Taken.gC
theorem Tx.mg_Free (T : Tx K mg) : mg "Free" = some (.ref (T.ad "Free")) := T.ex_Free.gC
theorem Tx.mg_Knot (T : Tx K mg) : mg "Knot" = some (.ref (T.ad "Knot")) := T.ex_Knot.gC
theorem Tx.mg_Strange (T : Tx K mg) : mg "Strange" = some (.ref (T.ad "Strange")) := T.ex_Strange.gC
theorem Tx.mg_FullBox (T : Tx K mg) : mg "FullBox" = some (.ref (T.ad "FullBox")) := T.ex_FullBox.gC
theorem Tx.hi_HeartError (T : Tx K mg) : ∀ c b, isa_HeartError c = some b → PySem.W.exmOne K (.ref (T.ca c)) (.ref (T.ad "HeartError")) = some b := by
  intro c b h
  unfold isa_HeartError at h
  by_cases e_NoStep : c = "NoStep"
  · rw [if_pos e_NoStep] at h; cases h; rw [e_NoStep]; exact exm_own T.ex_HeartError T.s_NoStep_HeartError
  rw [if_neg e_NoStep] at h
  cases h
theorem Tx.hk_NoTask (T : Tx K mg) : ∀ c b, kis_NoTask c = some b → PySem.W.kitOne K (.ref (T.ca c)) (.ref (T.ad "NoTask")) = some b := by
  intro c b h
  unfold kis_NoTask at h
  by_cases e_NoStep : c = "NoStep"
  · rw [if_pos e_NoStep] at h; cases h; rw [e_NoStep]; exact T.k_NoStep_NoTask
  rw [if_neg e_NoStep] at h
  cases h
theorem Tx.hx_NoTask (T : Tx K mg) : ∀ c b, kis_NoTask c = some b → ExcC K (T.ca c) := by
  intro c b h
  unfold kis_NoTask at h
  by_cases e_NoStep : c = "NoStep"
  · rw [if_pos e_NoStep] at h; cases h; rw [e_NoStep]; exact T.xc_NoStep
  rw [if_neg e_NoStep] at h
  cases h
theorem Tx.hk_NoPlan (T : Tx K mg) : ∀ c b, kis_NoPlan c = some b → PySem.W.kitOne K (.ref (T.ca c)) (.ref (T.ad "NoPlan")) = some b := by
  intro c b h
  unfold kis_NoPlan at h
  by_cases e_NoStep : c = "NoStep"
  · rw [if_pos e_NoStep] at h; cases h; rw [e_NoStep]; exact T.k_NoStep_NoPlan
  rw [if_neg e_NoStep] at h
  cases h
theorem Tx.hx_NoPlan (T : Tx K mg) : ∀ c b, kis_NoPlan c = some b → ExcC K (T.ca c) := by
  intro c b h
  unfold kis_NoPlan at h
  by_cases e_NoStep : c = "NoStep"
  · rw [if_pos e_NoStep] at h; cases h; rw [e_NoStep]; exact T.xc_NoStep
  rw [if_neg e_NoStep] at h
  cases h
theorem Tx.hk_Known (T : Tx K mg) : ∀ c b, kis_Known c = some b → PySem.W.kitOne K (.ref (T.ca c)) (.ref (T.ad "Known")) = some b := by
  intro c b h
  unfold kis_Known at h
  by_cases e_NoStep : c = "NoStep"
  · rw [if_pos e_NoStep] at h; cases h; rw [e_NoStep]; exact T.k_NoStep_Known
  rw [if_neg e_NoStep] at h
  cases h
theorem Tx.hx_Known (T : Tx K mg) : ∀ c b, kis_Known c = some b → ExcC K (T.ca c) := by
  intro c b h
  unfold kis_Known at h
  by_cases e_NoStep : c = "NoStep"
  · rw [if_pos e_NoStep] at h; cases h; rw [e_NoStep]; exact T.xc_NoStep
  rw [if_neg e_NoStep] at h
  cases h
theorem Tx.hk_Unknown (T : Tx K mg) : ∀ c b, kis_Unknown c = some b → PySem.W.kitOne K (.ref (T.ca c)) (.ref (T.ad "Unknown")) = some b := by
  intro c b h
  unfold kis_Unknown at h
  by_cases e_NoStep : c = "NoStep"
  · rw [if_pos e_NoStep] at h; cases h; rw [e_NoStep]; exact T.k_NoStep_Unknown
  rw [if_neg e_NoStep] at h
  cases h
theorem Tx.hx_Unknown (T : Tx K mg) : ∀ c b, kis_Unknown c = some b → ExcC K (T.ca c) := by
  intro c b h
  unfold kis_Unknown at h
  by_cases e_NoStep : c = "NoStep"
  · rw [if_pos e_NoStep] at h; cases h; rw [e_NoStep]; exact T.xc_NoStep
  rw [if_neg e_NoStep] at h
  cases h
theorem Tx.hk_NoTime (T : Tx K mg) : ∀ c b, kis_NoTime c = some b → PySem.W.kitOne K (.ref (T.ca c)) (.ref (T.ad "NoTime")) = some b := by
  intro c b h
  unfold kis_NoTime at h
  by_cases e_NoStep : c = "NoStep"
  · rw [if_pos e_NoStep] at h; cases h; rw [e_NoStep]; exact T.k_NoStep_NoTime
  rw [if_neg e_NoStep] at h
  cases h
theorem Tx.hx_NoTime (T : Tx K mg) : ∀ c b, kis_NoTime c = some b → ExcC K (T.ca c) := by
  intro c b h
  unfold kis_NoTime at h
  by_cases e_NoStep : c = "NoStep"
  · rw [if_pos e_NoStep] at h; cases h; rw [e_NoStep]; exact T.xc_NoStep
  rw [if_neg e_NoStep] at h
  cases h
theorem Tx.hk_Taken (T : Tx K mg) : ∀ c b, kis_Taken c = some b → PySem.W.kitOne K (.ref (T.ca c)) (.ref (T.ad "Taken")) = some b := by
  intro c b h
  unfold kis_Taken at h
  by_cases e_NoStep : c = "NoStep"
  · rw [if_pos e_NoStep] at h; cases h; rw [e_NoStep]; exact T.k_NoStep_Taken
  rw [if_neg e_NoStep] at h
  cases h
theorem Tx.hx_Taken (T : Tx K mg) : ∀ c b, kis_Taken c = some b → ExcC K (T.ca c) := by
  intro c b h
  unfold kis_Taken at h
  by_cases e_NoStep : c = "NoStep"
  · rw [if_pos e_NoStep] at h; cases h; rw [e_NoStep]; exact T.xc_NoStep
  rw [if_neg e_NoStep] at h
  cases h
theorem Tx.hk_Free (T : Tx K mg) : ∀ c b, kis_Free c = some b → PySem.W.kitOne K (.ref (T.ca c)) (.ref (T.ad "Free")) = some b := by
  intro c b h
  unfold kis_Free at h
  by_cases e_NoStep : c = "NoStep"
  · rw [if_pos e_NoStep] at h; cases h; rw [e_NoStep]; exact T.k_NoStep_Free
  rw [if_neg e_NoStep] at h
  cases h
theorem Tx.hx_Free (T : Tx K mg) : ∀ c b, kis_Free c = some b → ExcC K (T.ca c) := by
  intro c b h
  unfold kis_Free at h
  by_cases e_NoStep : c = "NoStep"
  · rw [if_pos e_NoStep] at h; cases h; rw [e_NoStep]; exact T.xc_NoStep
  rw [if_neg e_NoStep] at h
  cases h
theorem Tx.hk_Knot (T : Tx K mg) : ∀ c b, kis_Knot c = some b → PySem.W.kitOne K (.ref (T.ca c)) (.ref (T.ad "Knot")) = some b := by
  intro c b h
  unfold kis_Knot at h
  by_cases e_NoStep : c = "NoStep"
  · rw [if_pos e_NoStep] at h; cases h; rw [e_NoStep]; exact T.k_NoStep_Knot
  rw [if_neg e_NoStep] at h
  cases h
theorem Tx.hx_Knot (T : Tx K mg) : ∀ c b, kis_Knot c = some b → ExcC K (T.ca c) := by
  intro c b h
  unfold kis_Knot at h
  by_cases e_NoStep : c = "NoStep"
  · rw [if_pos e_NoStep] at h; cases h; rw [e_NoStep]; exact T.xc_NoStep
  rw [if_neg e_NoStep] at h
  cases h
theorem Tx.hk_Strange (T : Tx K mg) : ∀ c b, kis_Strange c = some b → PySem.W.kitOne K (.ref (T.ca c)) (.ref (T.ad "Strange")) = some b := by
  intro c b h
  unfold kis_Strange at h
  by_cases e_NoStep : c = "NoStep"
  · rw [if_pos e_NoStep] at h; cases h; rw [e_NoStep]; exact T.k_NoStep_Strange
  rw [if_neg e_NoStep] at h
  cases h
theorem Tx.hx_Strange (T : Tx K mg) : ∀ c b, kis_Strange c = some b → ExcC K (T.ca c) := by
  intro c b h
  unfold kis_Strange at h
  by_cases e_NoStep : c = "NoStep"
  · rw [if_pos e_NoStep] at h; cases h; rw [e_NoStep]; exact T.xc_NoStep
  rw [if_neg e_NoStep] at h
  cases h
theorem Tx.hk_FullBox (T : Tx K mg) : ∀ c b, kis_FullBox c = some b → PySem.W.kitOne K (.ref (T.ca c)) (.ref (T.ad "FullBox")) = some b := by
  intro c b h
  unfold kis_FullBox at h
  by_cases e_NoStep : c = "NoStep"
  · rw [if_pos e_NoStep] at h; cases h; rw [e_NoStep]; exact T.k_NoStep_FullBox
  rw [if_neg e_NoStep] at h
  cases h
theorem Tx.hx_FullBox (T : Tx K mg) : ∀ c b, kis_FullBox c = some b → ExcC K (T.ca c) := by
  intro c b h
  unfold kis_FullBox at h
  by_cases e_NoStep : c = "NoStep"
  · rw [if_pos e_NoStep] at h; cases h; rw [e_NoStep]; exact T.xc_NoStep
  rw [if_neg e_NoStep] at h
  cases h
theorem Tx.hk_NoStep (T : Tx K mg) : ∀ c b, kis_NoStep c = some b → PySem.W.kitOne K (.ref (T.ca c)) (.ref (T.ad "NoStep")) = some b := by
  intro c b h
  unfold kis_NoStep at h
  by_cases e_NoStep : c = "NoStep"
  · rw [if_pos e_NoStep] at h; cases h; rw [e_NoStep]; exact T.k_NoStep_NoStep
  rw [if_neg e_NoStep] at h
  cases h
theorem Tx.hx_NoStep (T : Tx K mg) : ∀ c b, kis_NoStep c = some b → ExcC K (T.ca c) := by
  intro c b h
  unfold kis_NoStep at h
  by_cases e_NoStep : c = "NoStep"
  · rw [if_pos e_NoStep] at h; cases h; rw [e_NoStep]; exact T.xc_NoStep
  rw [if_neg e_NoStep] at h
  cases h
theorem Tx.hk_ValueError (T : Tx K mg) : ∀ c b, kis_ValueError c = some b → PySem.W.kitOne K (.ref (T.ca c)) (.type "ValueError") = some b := by
  intro c b h
  unfold kis_ValueError at h
  by_cases e_NoStep : c = "NoStep"
  · rw [if_pos e_NoStep] at h; cases h; rw [e_NoStep]; exact T.k_NoStep_ValueError
  rw [if_neg e_NoStep] at h
  cases h
theorem Tx.hx_ValueError (T : Tx K mg) : ∀ c b, kis_ValueError c = some b → ExcC K (T.ca c) := by
  intro c b h
  unfold kis_ValueError at h
  by_cases e_NoStep : c = "NoStep"
  · rw [if_pos e_NoStep] at h; cases h; rw [e_NoStep]; exact T.xc_NoStep
  rw [if_neg e_NoStep] at h
  cases h
theorem Tx.hk_NoTask_NoPlan_Known_Unknown_NoTime_Taken_Free_Knot_Strange_FullBox (T : Tx K mg) : ∀ c b, kis_NoTask_NoPlan_Known_Unknown_NoTime_Taken_Free_Knot_Strange_FullBox c = some b → PySem.W.kitAny K (.ref (T.ca c)) [.ref (T.ad "NoTask"), .ref (T.ad "NoPlan"), .ref (T.ad "Known"), .ref (T.ad "Unknown"), .ref (T.ad "NoTime"), .ref (T.ad "Taken"), .ref (T.ad "Free"), .ref (T.ad "Knot"), .ref (T.ad "Strange"), .ref (T.ad "FullBox")] = some b := by
  intro c b h
  unfold kis_NoTask_NoPlan_Known_Unknown_NoTime_Taken_Free_Knot_Strange_FullBox at h
  by_cases e_NoStep : c = "NoStep"
  · rw [if_pos e_NoStep] at h; cases h; rw [e_NoStep]; exact kitAny_cons T.k_NoStep_NoTask (fun _ => kitAny_cons T.k_NoStep_NoPlan (fun _ => kitAny_cons T.k_NoStep_Known (fun _ => kitAny_cons T.k_NoStep_Unknown (fun _ => kitAny_cons T.k_NoStep_NoTime (fun _ => kitAny_cons T.k_NoStep_Taken (fun _ => kitAny_cons T.k_NoStep_Free (fun _ => kitAny_cons T.k_NoStep_Knot (fun _ => kitAny_cons T.k_NoStep_Strange (fun _ => kitAny_cons T.k_NoStep_FullBox (fun _ => kitAny_nil) (fun z => nomatch z)) (fun z => nomatch z)) (fun z => nomatch z)) (fun z => nomatch z)) (fun z => nomatch z)) (fun z => nomatch z)) (fun z => nomatch z)) (fun z => nomatch z)) (fun z => nomatch z)) (fun z => nomatch z)
  rw [if_neg e_NoStep] at h
  cases h
theorem Tx.hx_NoTask_NoPlan_Known_Unknown_NoTime_Taken_Free_Knot_Strange_FullBox (T : Tx K mg) : ∀ c b, kis_NoTask_NoPlan_Known_Unknown_NoTime_Taken_Free_Knot_Strange_FullBox c = some b → ExcC K (T.ca c) := by
  intro c b h
  unfold kis_NoTask_NoPlan_Known_Unknown_NoTime_Taken_Free_Knot_Strange_FullBox at h
  by_cases e_NoStep : c = "NoStep"
  · rw [if_pos e_NoStep] at h; cases h; rw [e_NoStep]; exact T.xc_NoStep
  rw [if_neg e_NoStep] at h
  cases h
set_option maxRecDepth 100000 in
theorem Tx.G_is_letter (T : Tx K mg) (P : Program) (w : World) (base : Heap) : FnD P w K mg base 1 T.f_is_letter T.d_is_letter ["sign"] true T.ca fn_is_letter := by
  have sc := sc_is_letter
  refine fn_mkD T.F_is_letter sc (fun cdv A outer s H E hr tk hp => ?_)
  exact dss_one (ds_ret (de_and (de_le (DE.b (de_int)) (DE.b (de_ord (DE.b (de_var 0)) rfl rfl T.n_ord))) (de_one (de_le (DE.b (de_ord (DE.b (de_var 0)) rfl rfl T.n_ord)) (DE.b (de_int))))))
set_option maxRecDepth 100000 in
theorem Tx.G_is_figure (T : Tx K mg) (P : Program) (w : World) (base : Heap) : FnD P w K mg base 1 T.f_is_figure T.d_is_figure ["sign"] true T.ca fn_is_figure := by
  have sc := sc_is_figure
  refine fn_mkD T.F_is_figure sc (fun cdv A outer s H E hr tk hp => ?_)
  exact dss_one (ds_ret (de_and (de_le (DE.b (de_int)) (DE.b (de_ord (DE.b (de_var 0)) rfl rfl T.n_ord))) (de_one (de_le (DE.b (de_ord (DE.b (de_var 0)) rfl rfl T.n_ord)) (DE.b (de_int))))))
set_option maxRecDepth 100000 in
theorem Tx.G_is_name (T : Tx K mg) (P : Program) (w : World) (base : Heap) : FnD P w K mg base 2 T.f_is_name T.d_is_name ["text"] true T.ca fn_is_name := by
  have sc := sc_is_name
  refine fn_mkD T.F_is_name sc (fun cdv A outer s H E hr tk hp => ?_)
  exact dss_cons (ds_if (DW.t (dw_or (dt_eq hr.units (DE.b (de_var 0)) (DE.b (de_str))) (dw_or (dt_gt (DE.b (de_len (DE.b (de_var 0)) rfl rfl T.n_len)) (DE.b (de_glob rfl T.c_MOST_NAME))) (dw_or1 (dt_not (dt_val (DE.b (de_call (T.G_is_letter P w base) (fun z => z) rfl (hr.mono (by decide)) T.m_is_letter T.F_is_letter.kp T.b_is_letter tk (da_cons (de_ix (DE.b (de_var 0)) (DE.b (de_int))) (da_nil)) (aCons_len (aNil_len)))))))))) (dss_one (ds_ret (de_bl))) (dss_nil)) (dss_one (ds_ret (de_all rfl (DO.b (do_lc (own := [("sign", 1)]) rfl sc.nd (di_any (de_var 0)) (blkOk_by (N := N_is_name) (sc := defScope st_is_name) (by decide +kernel)) (fun _ _ _ _ _ => dg_name 1 sc.nd rfl (by first | exact Or.inl rfl | exact Or.inr rfl)) (fun _ _ _ _ _ => dts_nil) (fun _ _ _ _ _ => de_or (de_call (T.G_is_letter P w base) (fun z => z) rfl (hr.mono (by decide)) T.m_is_letter T.F_is_letter.kp T.b_is_letter tk0 (da_cons (de_var 1) (da_nil)) (aCons_len (aNil_len))) (de_one (de_call (T.G_is_figure P w base) (fun z => z) rfl (hr.mono (by decide)) T.m_is_figure T.F_is_figure.kp T.b_is_figure tk0 (da_cons (de_var 1) (da_nil)) (aCons_len (aNil_len))))))) rfl rfl T.n_all)))
set_option maxRecDepth 100000 in
theorem Tx.G_is_word (T : Tx K mg) (P : Program) (w : World) (base : Heap) : FnD P w K mg base 1 T.f_is_word T.d_is_word ["text"] true T.ca fn_is_word := by
  have sc := sc_is_word
  refine fn_mkD T.F_is_word sc (fun cdv A outer s H E hr tk hp => ?_)
  exact dss_cons (ds_if (DW.t (dw_or (dt_eq hr.units (DE.b (de_var 0)) (DE.b (de_str))) (dw_or1 (dt_gt (DE.b (de_len (DE.b (de_var 0)) rfl rfl T.n_len)) (DE.b (de_glob rfl T.c_MOST_WORD)))))) (dss_one (ds_ret (de_bl))) (dss_nil)) (dss_one (ds_ret (de_all rfl (DO.b (do_lc (own := [("sign", 1)]) rfl sc.nd (di_any (de_var 0)) (blkOk_by (N := N_is_word) (sc := defScope st_is_word) (by decide +kernel)) (fun _ _ _ _ _ => dg_name 1 sc.nd rfl (by first | exact Or.inl rfl | exact Or.inr rfl)) (fun _ _ _ _ _ => dts_nil) (fun _ _ _ _ _ => de_and (de_le (DE.b (de_int)) (DE.b (de_ord (DE.b (de_var 1)) rfl rfl T.n_ord))) (de_and (de_le (DE.b (de_ord (DE.b (de_var 1)) rfl rfl T.n_ord)) (DE.b (de_int))) (de_one (de_ne hr.units (DE.b (de_ord (DE.b (de_var 1)) rfl rfl T.n_ord)) (DE.b (de_int)))))))) rfl rfl T.n_all)))
set_option maxRecDepth 100000 in
theorem Tx.G_is_number (T : Tx K mg) (P : Program) (w : World) (base : Heap) : FnD P w K mg base 1 T.f_is_number T.d_is_number ["part", "low"] true T.ca fn_is_number := by
  have sc := sc_is_number
  refine fn_mkD T.F_is_number sc (fun cdv A outer s H E hr tk hp => ?_)
  exact dss_one (ds_ret (de_and (de_isi "int" (DE.b (de_var 0)) (by decide +kernel) rfl T.n_int (by decide) (by decide) rfl T.n_isinstance) (de_and (de_le (DE.b (de_var 1)) (DE.b (de_var 0))) (de_one (de_le (DE.b (de_var 0)) (DE.b (de_glob rfl T.c_MOST_TURNS)))))))
set_option maxRecDepth 100000 in
theorem Tx.G_is_named (T : Tx K mg) (P : Program) (w : World) (base : Heap) : FnD P w K mg base 3 T.f_is_named T.d_is_named ["part"] true T.ca fn_is_named := by
  have sc := sc_is_named
  refine fn_mkD T.F_is_named sc (fun cdv A outer s H E hr tk hp => ?_)
  exact dss_one (ds_ret (de_and (de_isi "str" (DE.b (de_var 0)) (by decide +kernel) rfl T.n_str (by decide) (by decide) rfl T.n_isinstance) (de_one (de_call (T.G_is_name P w base) (fun z => z) rfl (hr.mono (by decide)) T.m_is_name T.F_is_name.kp T.b_is_name tk (da_cons (de_var 0) (da_nil)) (aCons_len (aNil_len))))))
set_option maxRecDepth 100000 in
theorem Tx.G_is_pair (T : Tx K mg) (P : Program) (w : World) (base : Heap) : FnD P w K mg base 4 T.f_is_pair T.d_is_pair ["step"] true T.ca fn_is_pair := by
  have sc := sc_is_pair
  refine fn_mkD T.F_is_pair sc (fun cdv A outer s H E hr tk hp => ?_)
  exact dss_cons (ds_if (DW.t (dw_or (dt_eq hr.units (DE.b (de_ix (DE.b (de_var 0)) (DE.b (de_int)))) (DE.b (de_str))) (dw_or1 (dt_eq hr.units (DE.b (de_ix (DE.b (de_var 0)) (DE.b (de_int)))) (DE.b (de_str)))))) (dss_one (ds_ret (de_call (T.G_is_number P w base) (fun z => z) rfl (hr.mono (by decide)) T.m_is_number T.F_is_number.kp T.b_is_number tk (da_cons (de_ix (DE.b (de_var 0)) (DE.b (de_int))) (da_cons (de_int) (da_nil))) (aCons_len (aCons_len (aNil_len)))))) (dss_nil)) (dss_cons (ds_if (dt_eq hr.units (DE.b (de_ix (DE.b (de_var 0)) (DE.b (de_int)))) (DE.b (de_str))) (dss_one (ds_ret (de_call (T.G_is_number P w base) (fun z => z) rfl (hr.mono (by decide)) T.m_is_number T.F_is_number.kp T.b_is_number tk (da_cons (de_ix (DE.b (de_var 0)) (DE.b (de_int))) (da_cons (de_int) (da_nil))) (aCons_len (aCons_len (aNil_len)))))) (dss_nil)) (dss_cons (ds_if (DW.t (dw_or (dt_eq hr.units (DE.b (de_ix (DE.b (de_var 0)) (DE.b (de_int)))) (DE.b (de_str))) (dw_or (dt_eq hr.units (DE.b (de_ix (DE.b (de_var 0)) (DE.b (de_int)))) (DE.b (de_str))) (dw_or1 (dt_eq hr.units (DE.b (de_ix (DE.b (de_var 0)) (DE.b (de_int)))) (DE.b (de_str))))))) (dss_one (ds_ret (de_call (T.G_is_named P w base) (fun z => z) rfl (hr.mono (by decide)) T.m_is_named T.F_is_named.kp T.b_is_named tk (da_cons (de_ix (DE.b (de_var 0)) (DE.b (de_int))) (da_nil)) (aCons_len (aNil_len))))) (dss_nil)) (dss_one (ds_ret (de_bl)))))
set_option maxRecDepth 100000 in
theorem Tx.G_is_triple (T : Tx K mg) (P : Program) (w : World) (base : Heap) : FnD P w K mg base 4 T.f_is_triple T.d_is_triple ["step"] true T.ca fn_is_triple := by
  have sc := sc_is_triple
  refine fn_mkD T.F_is_triple sc (fun cdv A outer s H E hr tk hp => ?_)
  exact dss_cons (ds_if (dt_eq hr.units (DE.b (de_ix (DE.b (de_var 0)) (DE.b (de_int)))) (DE.b (de_str))) (dss_one (ds_ret (de_and (de_call (T.G_is_named P w base) (fun z => z) rfl (hr.mono (by decide)) T.m_is_named T.F_is_named.kp T.b_is_named tk (da_cons (de_ix (DE.b (de_var 0)) (DE.b (de_int))) (da_nil)) (aCons_len (aNil_len))) (de_one (de_call (T.G_is_number P w base) (fun z => z) rfl (hr.mono (by decide)) T.m_is_number T.F_is_number.kp T.b_is_number tk (da_cons (de_ix (DE.b (de_var 0)) (DE.b (de_int))) (da_cons (de_int) (da_nil))) (aCons_len (aCons_len (aNil_len)))))))) (dss_nil)) (dss_cons (ds_if (dt_eq hr.units (DE.b (de_ix (DE.b (de_var 0)) (DE.b (de_int)))) (DE.b (de_str))) (dss_one (ds_ret (de_and (de_call (T.G_is_named P w base) (fun z => z) rfl (hr.mono (by decide)) T.m_is_named T.F_is_named.kp T.b_is_named tk (da_cons (de_ix (DE.b (de_var 0)) (DE.b (de_int))) (da_nil)) (aCons_len (aNil_len))) (de_and (de_isi "str" (DE.b (de_ix (DE.b (de_var 0)) (DE.b (de_int)))) (by decide +kernel) rfl T.n_str (by decide) (by decide) rfl T.n_isinstance) (de_one (de_call (T.G_is_word P w base) (fun z => z) rfl (hr.mono (by decide)) T.m_is_word T.F_is_word.kp T.b_is_word tk (da_cons (de_ix (DE.b (de_var 0)) (DE.b (de_int))) (da_nil)) (aCons_len (aNil_len)))))))) (dss_nil)) (dss_one (ds_ret (de_bl))))
set_option maxRecDepth 100000 in
theorem Tx.G_is_step (T : Tx K mg) (P : Program) (w : World) (base : Heap) : FnD P w K mg base 5 T.f_is_step T.d_is_step ["step"] true T.ca fn_is_step := by
  have sc := sc_is_step
  refine fn_mkD T.F_is_step sc (fun cdv A outer s H E hr tk hp => ?_)
  exact dss_cons (ds_if (dt_eq hr.units (DE.b (de_len (DE.b (de_var 0)) rfl rfl T.n_len)) (DE.b (de_int))) (dss_one (ds_ret (de_eq hr.units (DE.b (de_ix (DE.b (de_var 0)) (DE.b (de_int)))) (DE.b (de_str))))) (dss_nil)) (dss_cons (ds_if (dt_eq hr.units (DE.b (de_len (DE.b (de_var 0)) rfl rfl T.n_len)) (DE.b (de_int))) (dss_one (ds_ret (de_call (T.G_is_pair P w base) (fun z => z) rfl (hr.mono (by decide)) T.m_is_pair T.F_is_pair.kp T.b_is_pair tk (da_cons (de_var 0) (da_nil)) (aCons_len (aNil_len))))) (dss_nil)) (dss_cons (ds_if (dt_eq hr.units (DE.b (de_len (DE.b (de_var 0)) rfl rfl T.n_len)) (DE.b (de_int))) (dss_one (ds_ret (de_call (T.G_is_triple P w base) (fun z => z) rfl (hr.mono (by decide)) T.m_is_triple T.F_is_triple.kp T.b_is_triple tk (da_cons (de_var 0) (da_nil)) (aCons_len (aNil_len))))) (dss_nil)) (dss_one (ds_ret (de_bl)))))
set_option maxRecDepth 100000 in
theorem Tx.G_shown_step (T : Tx K mg) (P : Program) (w : World) (base : Heap) : FnD P w K mg base 1 T.f_shown_step T.d_shown_step ["step"] true T.ca fn_shown_step := by
  have sc := sc_shown_step
  refine fn_mkD T.F_shown_step sc (fun cdv A outer s H E hr tk hp => ?_)
  exact dss_one (ds_ret (de_join (DE.b (de_str)) (DO.b (do_lc (own := [("part", 1)]) rfl sc.nd (di_any (de_var 0)) (blkOk_by (N := N_shown_step) (sc := defScope st_shown_step) (by decide +kernel)) (fun _ _ _ _ _ => dg_name 1 sc.nd rfl (by first | exact Or.inl rfl | exact Or.inr rfl)) (fun _ _ _ _ _ => dts_nil) (fun _ _ _ _ _ => de_strI (DE.b (de_var 1)) rfl rfl T.n_str)))))
set_option maxRecDepth 100000 in
theorem Tx.G_number_of (T : Tx K mg) (P : Program) (w : World) (base : Heap) : FnD P w K mg base 2 T.f_number_of T.d_number_of ["word"] true T.ca fn_number_of := by
  have sc := sc_number_of
  refine fn_mkD T.F_number_of sc (fun cdv A outer s H E hr tk hp => ?_)
  exact dss_cons (ds_if (DW.t (dw_or (dt_eq hr.units (DE.b (de_var 0)) (DE.b (de_str))) (dw_or (dt_gt (DE.b (de_len (DE.b (de_var 0)) rfl rfl T.n_len)) (DE.b (de_len (DE.b (de_strI (DE.b (de_glob rfl T.c_MOST_TURNS)) rfl rfl T.n_str)) rfl rfl T.n_len))) (dw_or1 (DW.t (dw_and (dt_eq hr.units (DE.b (de_ix (DE.b (de_var 0)) (DE.b (de_int)))) (DE.b (de_str))) (dw_and1 (dt_gt (DE.b (de_len (DE.b (de_var 0)) rfl rfl T.n_len)) (DE.b (de_int)))))))))) (dss_one (ds_raise T.ex_NoStep tk)) (dss_nil)) (dss_cons (ds_for hp rfl (di_any (de_var 0)) (dg_name 1 sc.nd rfl (by first | exact Or.inl rfl | exact Or.inr rfl)) (dss_one (ds_if (dt_not (dt_val (DE.b (de_call (T.G_is_figure P w base) (fun z => z) rfl (hr.mono (by decide)) T.m_is_figure T.F_is_figure.kp T.b_is_figure tk (da_cons (de_var 1) (da_nil)) (aCons_len (aNil_len)))))) (dss_one (ds_raise T.ex_NoStep tk)) (dss_nil)))) (dss_one (ds_ret (de_intF (DE.b (de_var 0)) rfl rfl T.n_int))))
set_option maxRecDepth 100000 in
theorem Tx.G_read_step (T : Tx K mg) (P : Program) (w : World) (base : Heap) : FnD P w K mg base 6 T.f_read_step T.d_read_step ["text"] true T.ca fn_read_step := by
  have sc := sc_read_step
  refine fn_mkD T.F_read_step sc (fun cdv A outer s H E hr tk hp => ?_)
  exact dss_cons (ds_set 1 sc.nd rfl (by first | exact Or.inl rfl | exact Or.inr rfl) (de_own (do_split (DE.b (de_var 0)) (DE.b (de_str))))) (dss_cons (ds_set 2 sc.nd rfl (by first | exact Or.inl rfl | exact Or.inr rfl) (de_tupF (DE.b (de_var 1)) rfl rfl T.n_tuple)) (dss_cons (ds_if (DW.t (dw_and (dt_eq hr.units (DE.b (de_len (DE.b (de_var 1)) rfl rfl T.n_len)) (DE.b (de_int))) (dw_and1 (dt_in (rm_u65 hr) (DE.b (de_ix (DE.b (de_var 1)) (DE.b (de_int)))) (DE.b (de_tup (da_cons (de_str) (da_cons (de_str) (da_cons (de_str) (da_nil)))))))))) (dss_one (ds_set 2 sc.nd rfl (by first | exact Or.inl rfl | exact Or.inr rfl) (de_tup (da_cons (de_ix (DE.b (de_var 1)) (DE.b (de_int))) (da_cons (de_call (T.G_number_of P w base) (fun z => z) rfl (hr.mono (by decide)) T.m_number_of T.F_number_of.kp T.b_number_of tk (da_cons (de_ix (DE.b (de_var 1)) (DE.b (de_int))) (da_nil)) (aCons_len (aNil_len))) (da_nil)))))) (dss_nil)) (dss_cons (ds_if (DW.t (dw_and (dt_eq hr.units (DE.b (de_len (DE.b (de_var 1)) rfl rfl T.n_len)) (DE.b (de_int))) (dw_and1 (dt_eq hr.units (DE.b (de_ix (DE.b (de_var 1)) (DE.b (de_int)))) (DE.b (de_str)))))) (dss_one (ds_set 2 sc.nd rfl (by first | exact Or.inl rfl | exact Or.inr rfl) (de_tup (da_cons (de_ix (DE.b (de_var 1)) (DE.b (de_int))) (da_cons (de_ix (DE.b (de_var 1)) (DE.b (de_int))) (da_cons (de_call (T.G_number_of P w base) (fun z => z) rfl (hr.mono (by decide)) T.m_number_of T.F_number_of.kp T.b_number_of tk (da_cons (de_ix (DE.b (de_var 1)) (DE.b (de_int))) (da_nil)) (aCons_len (aNil_len))) (da_nil))))))) (dss_nil)) (dss_cons (ds_if (dt_not (dt_val (DE.b (de_call (T.G_is_step P w base) (fun z => z) rfl (hr.mono (by decide)) T.m_is_step T.F_is_step.kp T.b_is_step tk (da_cons (de_var 2) (da_nil)) (aCons_len (aNil_len)))))) (dss_one (ds_raise T.ex_NoStep tk)) (dss_nil)) (dss_one (ds_ret (de_var 2)))))))
set_option maxRecDepth 100000 in
theorem Tx.G_law_cell_at (T : Tx K mg) (P : Program) (w : World) (base : Heap) : FnD P w K mg base 1 T.f_law_cell_at T.d_law_cell_at ["script", "k"] true T.ca fn_law_cell_at := by
  have sc := sc_law_cell_at
  refine fn_mkD T.F_law_cell_at sc (fun cdv A outer s H E hr tk hp => ?_)
  exact dss_cons (ds_if (dt_lt (DE.b (de_var 1)) (DE.b (de_len (DE.b (de_var 0)) rfl rfl T.n_len))) (dss_one (ds_ret (de_ix (DE.b (de_var 0)) (DE.b (de_var 1))))) (dss_nil)) (dss_one (ds_ret (de_int)))
set_option maxRecDepth 100000 in
theorem Tx.G_law_sign_by (T : Tx K mg) (P : Program) (w : World) (base : Heap) : FnD P w K mg base 1 T.f_law_sign_by T.d_law_sign_by ["cell"] true T.ca fn_law_sign_by := by
  have sc := sc_law_sign_by
  refine fn_mkD T.F_law_sign_by sc (fun cdv A outer s H E hr tk hp => ?_)
  exact dss_cons (ds_set 1 sc.nd rfl (by first | exact Or.inl rfl | exact Or.inr rfl) (de_str)) (dss_cons (ds_set 1 sc.nd rfl (by first | exact Or.inl rfl | exact Or.inr rfl) (de_add (DE.b (de_var 1)) (DE.b (de_str)))) (dss_one (ds_ret (de_ix (DE.b (de_var 1)) (DE.b (de_mod (DE.b (de_var 0)) (DE.b (de_int))))))))
set_option maxRecDepth 100000 in
theorem Tx.G_law_name_by (T : Tx K mg) (P : Program) (w : World) (base : Heap) : FnD P w K mg base 1 T.f_law_name_by T.d_law_name_by ["cell"] true T.ca fn_law_name_by := by
  have sc := sc_law_name_by
  refine fn_mkD T.F_law_name_by sc (fun cdv A outer s H E hr tk hp => ?_)
  exact dss_cons (ds_set 1 sc.nd rfl (by first | exact Or.inl rfl | exact Or.inr rfl) (de_str)) (dss_cons (ds_set 2 sc.nd rfl (by first | exact Or.inl rfl | exact Or.inr rfl) (de_add (DE.b (de_int)) (DE.b (de_mod (DE.b (de_var 0)) (DE.b (de_int)))))) (dss_cons (ds_set 3 sc.nd rfl (by first | exact Or.inl rfl | exact Or.inr rfl) (de_mod (DE.b (de_div (DE.b (de_var 0)) (DE.b (de_int)))) (DE.b (de_var 2)))) (dss_cons (ds_set 4 sc.nd rfl (by first | exact Or.inl rfl | exact Or.inr rfl) (de_ix (DE.b (de_var 1)) (DE.b (de_mod (DE.b (de_div (DE.b (de_var 0)) (DE.b (de_int)))) (DE.b (de_int)))))) (dss_cons (ds_if (dt_eq hr.units (DE.b (de_var 3)) (DE.b (de_int))) (dss_one (ds_set 4 sc.nd rfl (by first | exact Or.inl rfl | exact Or.inr rfl) (de_ix (DE.b (de_var 1)) (DE.b (de_mod (DE.b (de_div (DE.b (de_var 0)) (DE.b (de_int)))) (DE.b (de_int))))))) (dss_nil)) (dss_one (ds_ret (de_add (DE.b (de_add (DE.b (de_mul (DE.b (de_str)) (DE.b (de_var 3)))) (DE.b (de_var 4)))) (DE.b (de_mul (DE.b (de_str)) (DE.b (de_sub (DE.b (de_sub (DE.b (de_var 2)) (DE.b (de_int)))) (DE.b (de_var 3)))))))))))))
set_option maxRecDepth 100000 in
theorem Tx.G_law_word_by (T : Tx K mg) (P : Program) (w : World) (base : Heap) : FnD P w K mg base 1 T.f_law_word_by T.d_law_word_by ["cell"] true T.ca fn_law_word_by := by
  have sc := sc_law_word_by
  refine fn_mkD T.F_law_word_by sc (fun cdv A outer s H E hr tk hp => ?_)
  exact dss_cons (ds_set 1 sc.nd rfl (by first | exact Or.inl rfl | exact Or.inr rfl) (de_str)) (dss_cons (ds_set 1 sc.nd rfl (by first | exact Or.inl rfl | exact Or.inr rfl) (de_add (DE.b (de_var 1)) (DE.b (de_str)))) (dss_cons (ds_set 2 sc.nd rfl (by first | exact Or.inl rfl | exact Or.inr rfl) (de_add (DE.b (de_int)) (DE.b (de_mod (DE.b (de_var 0)) (DE.b (de_int)))))) (dss_cons (ds_set 3 sc.nd rfl (by first | exact Or.inl rfl | exact Or.inr rfl) (de_mod (DE.b (de_div (DE.b (de_var 0)) (DE.b (de_int)))) (DE.b (de_var 2)))) (dss_one (ds_ret (de_add (DE.b (de_add (DE.b (de_mul (DE.b (de_str)) (DE.b (de_var 3)))) (DE.b (de_ix (DE.b (de_var 1)) (DE.b (de_mod (DE.b (de_div (DE.b (de_var 0)) (DE.b (de_int)))) (DE.b (de_int)))))))) (DE.b (de_mul (DE.b (de_str)) (DE.b (de_sub (DE.b (de_sub (DE.b (de_var 2)) (DE.b (de_int)))) (DE.b (de_var 3))))))))))))
set_option maxRecDepth 100000 in
theorem Tx.G_law_step_by (T : Tx K mg) (P : Program) (w : World) (base : Heap) : FnD P w K mg base 2 T.f_law_step_by T.d_law_step_by ["cell"] true T.ca fn_law_step_by := by
  have sc := sc_law_step_by
  refine fn_mkD T.F_law_step_by sc (fun cdv A outer s H E hr tk hp => ?_)
  exact dss_cons (ds_set 1 sc.nd rfl (by first | exact Or.inl rfl | exact Or.inr rfl) (de_mod (DE.b (de_var 0)) (DE.b (de_int)))) (dss_cons (ds_set 2 sc.nd rfl (by first | exact Or.inl rfl | exact Or.inr rfl) (de_div (DE.b (de_var 0)) (DE.b (de_int)))) (dss_cons (ds_if (dt_lt (DE.b (de_var 1)) (DE.b (de_int))) (dss_one (ds_ret (de_tup (da_cons (de_str) (da_cons (de_add (DE.b (de_int)) (DE.b (de_mod (DE.b (de_var 2)) (DE.b (de_int))))) (da_nil)))))) (dss_nil)) (dss_cons (ds_if (dt_eq hr.units (DE.b (de_var 1)) (DE.b (de_int))) (dss_one (ds_ret (de_tup (da_cons (de_str) (da_cons (de_add (DE.b (de_int)) (DE.b (de_mod (DE.b (de_var 2)) (DE.b (de_int))))) (da_nil)))))) (dss_nil)) (dss_cons (ds_if (dt_eq hr.units (DE.b (de_var 1)) (DE.b (de_int))) (dss_one (ds_ret (de_tup (da_cons (de_str) (da_cons (de_call (T.G_law_name_by P w base) (fun z => z) rfl (hr.mono (by decide)) T.m_law_name_by T.F_law_name_by.kp T.b_law_name_by tk (da_cons (de_div (DE.b (de_var 2)) (DE.b (de_int))) (da_nil)) (aCons_len (aNil_len))) (da_cons (de_mod (DE.b (de_var 2)) (DE.b (de_int))) (da_nil))))))) (dss_nil)) (dss_cons (ds_if (dt_eq hr.units (DE.b (de_var 1)) (DE.b (de_int))) (dss_one (ds_ret (de_tup (da_cons (de_str) (da_cons (de_call (T.G_law_name_by P w base) (fun z => z) rfl (hr.mono (by decide)) T.m_law_name_by T.F_law_name_by.kp T.b_law_name_by tk (da_cons (de_mod (DE.b (de_var 2)) (DE.b (de_int))) (da_nil)) (aCons_len (aNil_len))) (da_cons (de_call (T.G_law_word_by P w base) (fun z => z) rfl (hr.mono (by decide)) T.m_law_word_by T.F_law_word_by.kp T.b_law_word_by tk (da_cons (de_div (DE.b (de_var 2)) (DE.b (de_int))) (da_nil)) (aCons_len (aNil_len))) (da_nil))))))) (dss_nil)) (dss_cons (ds_if (dt_eq hr.units (DE.b (de_var 1)) (DE.b (de_int))) (dss_one (ds_ret (de_tup (da_cons (de_str) (da_cons (de_mod (DE.b (de_var 2)) (DE.b (de_int))) (da_nil)))))) (dss_nil)) (dss_cons (ds_if (dt_eq hr.units (DE.b (de_var 1)) (DE.b (de_int))) (dss_one (ds_ret (de_tup (da_cons (de_str) (da_nil))))) (dss_nil)) (dss_one (ds_ret (de_tup (da_cons (de_ix (DE.b (de_ix (DO.b (do_lst (da_cons (de_own (do_lst (da_cons (de_str) (da_cons (de_str) (da_nil))))) (da_cons (de_own (do_lst (da_cons (de_str) (da_cons (de_str) (da_nil))))) (da_nil))))) (DE.b (de_sub (DE.b (de_var 1)) (DE.b (de_int)))))) (DE.b (de_mod (DE.b (de_var 2)) (DE.b (de_int))))) (da_cons (de_call (T.G_law_name_by P w base) (fun z => z) rfl (hr.mono (by decide)) T.m_law_name_by T.F_law_name_by.kp T.b_law_name_by tk (da_cons (de_div (DE.b (de_var 2)) (DE.b (de_int))) (da_nil)) (aCons_len (aNil_len))) (da_nil)))))))))))))
set_option maxRecDepth 100000 in
theorem Tx.G_law_line (T : Tx K mg) (P : Program) (w : World) (base : Heap) : FnD P w K mg base 1 T.f_law_line T.d_law_line ["step"] true T.ca fn_law_line := by
  have sc := sc_law_line
  refine fn_mkD T.F_law_line sc (fun cdv A outer s H E hr tk hp => ?_)
  exact dss_cons (ds_set 1 sc.nd rfl (by first | exact Or.inl rfl | exact Or.inr rfl) (de_ix (DE.b (de_var 0)) (DE.b (de_int)))) (dss_cons (ds_for hp rfl (di_range2 (de_int) (de_len (DE.b (de_var 0)) rfl rfl T.n_len) rfl T.n_range) (dg_name 2 sc.nd rfl (by first | exact Or.inl rfl | exact Or.inr rfl)) (dss_one (ds_set 1 sc.nd rfl (by first | exact Or.inl rfl | exact Or.inr rfl) (de_add (DE.b (de_add (DE.b (de_var 1)) (DE.b (de_str)))) (DE.b (de_strI (DE.b (de_ix (DE.b (de_var 0)) (DE.b (de_var 2)))) rfl rfl T.n_str)))))) (dss_one (ds_ret (de_var 1))))
set_option maxRecDepth 100000 in
theorem Tx.G_law_spoilt (T : Tx K mg) (P : Program) (w : World) (base : Heap) : FnD P w K mg base 2 T.f_law_spoilt T.d_law_spoilt ["line", "cell", "draw"] true T.ca fn_law_spoilt := by
  have sc := sc_law_spoilt
  refine fn_mkD T.F_law_spoilt sc (fun cdv A outer s H E hr tk hp => ?_)
  exact dss_cons (ds_set 3 sc.nd rfl (by first | exact Or.inl rfl | exact Or.inr rfl) (de_mod (DE.b (de_var 1)) (DE.b (de_add (DE.b (de_len (DE.b (de_var 0)) rfl rfl T.n_len)) (DE.b (de_int)))))) (dss_cons (ds_set 4 sc.nd rfl (by first | exact Or.inl rfl | exact Or.inr rfl) (de_call (T.G_law_sign_by P w base) (fun z => z) rfl (hr.mono (by decide)) T.m_law_sign_by T.F_law_sign_by.kp T.b_law_sign_by tk (da_cons (de_div (DE.b (de_var 1)) (DE.b (de_int))) (da_nil)) (aCons_len (aNil_len)))) (dss_cons (ds_set 5 sc.nd rfl (by first | exact Or.inl rfl | exact Or.inr rfl) (de_own (do_split (DE.b (de_var 0)) (DE.b (de_str))))) (dss_cons (ds_set 6 sc.nd rfl (by first | exact Or.inl rfl | exact Or.inr rfl) (de_mod (DE.b (de_var 2)) (DE.b (de_int)))) (dss_cons (ds_if (dt_lt (DE.b (de_var 6)) (DE.b (de_int))) (dss_cons (ds_set 7 sc.nd rfl (by first | exact Or.inl rfl | exact Or.inr rfl) (de_slA (DE.b (de_var 0)) (dp_some (de_add (DE.b (de_var 3)) (DE.b (de_int)))) (dp_none))) (dss_one (ds_ret (de_ix (DO.b (do_lst (da_cons (de_add (DE.b (de_add (DE.b (de_slA (DE.b (de_var 0)) (dp_none) (dp_some (de_var 3)))) (DE.b (de_var 4)))) (DE.b (de_slA (DE.b (de_var 0)) (dp_some (de_var 3)) (dp_none)))) (da_cons (de_add (DE.b (de_slA (DE.b (de_var 0)) (dp_none) (dp_some (de_var 3)))) (DE.b (de_var 7))) (da_cons (de_add (DE.b (de_add (DE.b (de_slA (DE.b (de_var 0)) (dp_none) (dp_some (de_var 3)))) (DE.b (de_var 4)))) (DE.b (de_var 7))) (da_nil)))))) (DE.b (de_var 6)))))) (dss_nil)) (dss_cons (ds_if (dt_lt (DE.b (de_var 6)) (DE.b (de_int))) (dss_one (ds_ret (de_ix (DO.b (do_lst (da_cons (de_add (DE.b (de_add (DE.b (de_var 0)) (DE.b (de_str)))) (DE.b (de_ix (DE.b (de_var 5)) (DE.b (de_neg (de_int)))))) (da_cons (de_join (DE.b (de_str)) (DE.b (de_slA (DE.b (de_var 5)) (dp_none) (dp_some (de_neg (de_int)))))) (da_cons (de_join (DE.b (de_str)) (DE.b (de_add (DE.b (de_slA (DE.b (de_var 5)) (dp_none) (dp_some (de_neg (de_int))))) (DO.b (do_lst (da_cons (de_add (DE.b (de_str)) (DE.b (de_ix (DE.b (de_var 5)) (DE.b (de_neg (de_int)))))) (da_nil))))))) (da_nil)))))) (DE.b (de_sub (DE.b (de_var 6)) (DE.b (de_int))))))) (dss_nil)) (dss_cons (ds_if (dt_lt (DE.b (de_var 6)) (DE.b (de_int))) (dss_one (ds_ret (de_ix (DO.b (do_lst (da_cons (de_join (DE.b (de_str)) (DE.b (de_add (DE.b (de_slA (DE.b (de_var 5)) (dp_none) (dp_some (de_neg (de_int))))) (DO.b (do_lst (da_cons (de_add (DE.b (de_str)) (DE.b (de_ix (DE.b (de_var 5)) (DE.b (de_neg (de_int)))))) (da_nil))))))) (da_cons (de_join (DE.b (de_str)) (DE.b (de_add (DE.b (de_slA (DE.b (de_var 5)) (dp_none) (dp_some (de_neg (de_int))))) (DO.b (do_lst (da_cons (de_str) (da_nil))))))) (da_cons (de_upper (de_var 0)) (da_nil)))))) (DE.b (de_sub (DE.b (de_var 6)) (DE.b (de_int))))))) (dss_nil)) (dss_cons (ds_set 8 sc.nd rfl (by first | exact Or.inl rfl | exact Or.inr rfl) (de_own (do_lst (da_cons (de_str) (da_cons (de_str) (da_cons (de_str) (da_cons (de_str) (da_cons (de_str) (da_cons (de_str) (da_cons (de_str) (da_cons (de_str) (da_cons (de_str) (da_nil))))))))))))) (dss_one (ds_ret (de_ix (DE.b (de_add (DE.b (de_var 8)) (DO.b (do_lst (da_cons (de_str) (da_cons (de_str) (da_cons (de_str) (da_nil)))))))) (DE.b (de_mod (DE.b (de_div (DE.b (de_var 2)) (DE.b (de_int)))) (DE.b (de_int))))))))))))))
set_option maxRecDepth 100000 in
theorem Tx.G_law_name (T : Tx K mg) (P : Program) (w : World) (base : Heap) : FnD P w K mg base 1 T.f_law_name T.d_law_name ["part"] true T.ca fn_law_name := by
  have sc := sc_law_name
  refine fn_mkD T.F_law_name sc (fun cdv A outer s H E hr tk hp => ?_)
  exact dss_cons (ds_set 1 sc.nd rfl (by first | exact Or.inl rfl | exact Or.inr rfl) (de_str)) (dss_cons (ds_if (DW.t (dw_or (dt_eq hr.units (DE.b (de_var 0)) (DE.b (de_str))) (dw_or (dt_gt (DE.b (de_len (DE.b (de_var 0)) rfl rfl T.n_len)) (DE.b (de_int))) (dw_or1 (dt_nin (rm_u65 hr) (DE.b (de_ix (DE.b (de_var 0)) (DE.b (de_int)))) (DE.b (de_var 1))))))) (dss_one (ds_ret (de_bl))) (dss_nil)) (dss_one (ds_ret (de_eq hr.units (DE.b (de_len (DO.b (do_lc (own := [("sign", 2)]) rfl sc.nd (di_any (de_var 0)) (blkOk_by (N := N_law_name) (sc := defScope st_law_name) (by decide +kernel)) (fun _ _ _ _ _ => dg_name 2 sc.nd rfl (by first | exact Or.inl rfl | exact Or.inr rfl)) (fun _ _ _ _ _ => dts_one (dt_nin (rm_u65 hr) (DE.b (de_var 2)) (DE.b (de_add (DE.b (de_var 1)) (DE.b (de_str)))))) (fun _ _ _ _ _ => de_var 2))) rfl rfl T.n_len)) (DE.b (de_int))))))
set_option maxRecDepth 100000 in
theorem Tx.G_law_number (T : Tx K mg) (P : Program) (w : World) (base : Heap) : FnD P w K mg base 1 T.f_law_number T.d_law_number ["part", "low"] true T.ca fn_law_number := by
  have sc := sc_law_number
  refine fn_mkD T.F_law_number sc (fun cdv A outer s H E hr tk hp => ?_)
  exact dss_cons (ds_if (DW.t (dw_or (dt_eq hr.units (DE.b (de_var 0)) (DE.b (de_str))) (dw_or (dt_gt (DE.b (de_len (DE.b (de_var 0)) rfl rfl T.n_len)) (DE.b (de_int))) (dw_or1 (dt_gt (DE.b (de_len (DO.b (do_lc (own := [("sign", 2)]) rfl sc.nd (di_any (de_var 0)) (blkOk_by (N := N_law_number) (sc := defScope st_law_number) (by decide +kernel)) (fun _ _ _ _ _ => dg_name 2 sc.nd rfl (by first | exact Or.inl rfl | exact Or.inr rfl)) (fun _ _ _ _ _ => dts_one (dt_nin (rm_u65 hr) (DE.b (de_var 2)) (DE.b (de_str)))) (fun _ _ _ _ _ => de_var 2))) rfl rfl T.n_len)) (DE.b (de_int))))))) (dss_one (ds_ret (de_neg (de_int)))) (dss_nil)) (dss_cons (ds_if (DW.t (dw_or (DW.t (dw_and (dt_gt (DE.b (de_len (DE.b (de_var 0)) rfl rfl T.n_len)) (DE.b (de_int))) (dw_and1 (dt_eq hr.units (DE.b (de_ix (DE.b (de_var 0)) (DE.b (de_int)))) (DE.b (de_str)))))) (dw_or (dt_lt (DE.b (de_intF (DE.b (de_var 0)) rfl rfl T.n_int)) (DE.b (de_var 1))) (dw_or1 (dt_gt (DE.b (de_intF (DE.b (de_var 0)) rfl rfl T.n_int)) (DE.b (de_int))))))) (dss_one (ds_ret (de_neg (de_int)))) (dss_nil)) (dss_one (ds_ret (de_intF (DE.b (de_var 0)) rfl rfl T.n_int))))
set_option maxRecDepth 100000 in
theorem Tx.G_law_due (T : Tx K mg) (P : Program) (w : World) (base : Heap) : FnD P w K mg base 2 T.f_law_due T.d_law_due ["line"] true T.ca fn_law_due := by
  have sc := sc_law_due
  refine fn_mkD T.F_law_due sc (fun cdv A outer s H E hr tk hp => ?_)
  exact dss_cons (ds_set 1 sc.nd rfl (by first | exact Or.inl rfl | exact Or.inr rfl) (de_own (do_split (DE.b (de_var 0)) (DE.b (de_str))))) (dss_cons (ds_if (dt_eq hr.units (DE.b (de_var 1)) (DO.b (do_lst (da_cons (de_str) (da_nil))))) (dss_one (ds_ret (de_tup (da_cons (de_str) (da_nil))))) (dss_nil)) (dss_cons (ds_if (DW.t (dw_and (dt_eq hr.units (DE.b (de_len (DE.b (de_var 1)) rfl rfl T.n_len)) (DE.b (de_int))) (dw_and1 (dt_in (rm_u65 hr) (DE.b (de_ix (DE.b (de_var 1)) (DE.b (de_int)))) (DE.b (de_tup (da_cons (de_str) (da_cons (de_str) (da_cons (de_str) (da_nil)))))))))) (dss_cons (ds_set 2 sc.nd rfl (by first | exact Or.inl rfl | exact Or.inr rfl) (de_call (T.G_law_number P w base) (fun z => z) rfl (hr.mono (by decide)) T.m_law_number T.F_law_number.kp T.b_law_number tk (da_cons (de_ix (DE.b (de_var 1)) (DE.b (de_int))) (da_cons (de_intF (DE.b (de_ne hr.units (DE.b (de_ix (DE.b (de_var 1)) (DE.b (de_int)))) (DE.b (de_str)))) rfl rfl T.n_int) (da_nil))) (aCons_len (aCons_len (aNil_len))))) (dss_one (ds_ret (de_if (dt_ge (DE.b (de_var 2)) (DE.b (de_int))) (de_tup (da_cons (de_ix (DE.b (de_var 1)) (DE.b (de_int))) (da_cons (de_var 2) (da_nil)))) (de_non))))) (dss_nil)) (dss_cons (ds_if (DW.t (dw_and (dt_eq hr.units (DE.b (de_len (DE.b (de_var 1)) rfl rfl T.n_len)) (DE.b (de_int))) (dw_and (dt_in (rm_u65 hr) (DE.b (de_ix (DE.b (de_var 1)) (DE.b (de_int)))) (DE.b (de_tup (da_cons (de_str) (da_cons (de_str) (da_cons (de_str) (da_nil))))))) (dw_and1 (dt_val (DE.b (de_call (T.G_law_name P w base) (fun z => z) rfl (hr.mono (by decide)) T.m_law_name T.F_law_name.kp T.b_law_name tk (da_cons (de_ix (DE.b (de_var 1)) (DE.b (de_int))) (da_nil)) (aCons_len (aNil_len))))))))) (dss_one (ds_ret (de_tup (da_cons (de_ix (DE.b (de_var 1)) (DE.b (de_int))) (da_cons (de_ix (DE.b (de_var 1)) (DE.b (de_int))) (da_nil)))))) (dss_nil)) (dss_cons (ds_if (DW.t (dw_and (dt_eq hr.units (DE.b (de_len (DE.b (de_var 1)) rfl rfl T.n_len)) (DE.b (de_int))) (dw_and (dt_eq hr.units (DE.b (de_ix (DE.b (de_var 1)) (DE.b (de_int)))) (DE.b (de_str))) (dw_and (dt_val (DE.b (de_call (T.G_law_name P w base) (fun z => z) rfl (hr.mono (by decide)) T.m_law_name T.F_law_name.kp T.b_law_name tk (da_cons (de_ix (DE.b (de_var 1)) (DE.b (de_int))) (da_nil)) (aCons_len (aNil_len))))) (dw_and1 (dt_ge (DE.b (de_call (T.G_law_number P w base) (fun z => z) rfl (hr.mono (by decide)) T.m_law_number T.F_law_number.kp T.b_law_number tk (da_cons (de_ix (DE.b (de_var 1)) (DE.b (de_int))) (da_cons (de_int) (da_nil))) (aCons_len (aCons_len (aNil_len))))) (DE.b (de_int)))))))) (dss_one (ds_ret (de_tup (da_cons (de_ix (DE.b (de_var 1)) (DE.b (de_int))) (da_cons (de_ix (DE.b (de_var 1)) (DE.b (de_int))) (da_cons (de_call (T.G_law_number P w base) (fun z => z) rfl (hr.mono (by decide)) T.m_law_number T.F_law_number.kp T.b_law_number tk (da_cons (de_ix (DE.b (de_var 1)) (DE.b (de_int))) (da_cons (de_int) (da_nil))) (aCons_len (aCons_len (aNil_len)))) (da_nil))))))) (dss_nil)) (dss_cons (ds_if (DW.t (dw_and (dt_eq hr.units (DE.b (de_len (DE.b (de_var 1)) rfl rfl T.n_len)) (DE.b (de_int))) (dw_and (dt_eq hr.units (DE.b (de_ix (DE.b (de_var 1)) (DE.b (de_int)))) (DE.b (de_str))) (dw_and (dt_val (DE.b (de_call (T.G_law_name P w base) (fun z => z) rfl (hr.mono (by decide)) T.m_law_name T.F_law_name.kp T.b_law_name tk (da_cons (de_ix (DE.b (de_var 1)) (DE.b (de_int))) (da_nil)) (aCons_len (aNil_len))))) (dw_and (dt_le (DE.b (de_int)) (DE.b (de_len (DE.b (de_ix (DE.b (de_var 1)) (DE.b (de_int)))) rfl rfl T.n_len))) (dw_and1 (dt_le (DE.b (de_len (DE.b (de_ix (DE.b (de_var 1)) (DE.b (de_int)))) rfl rfl T.n_len)) (DE.b (de_int))))))))) (dss_one (ds_ret (de_if (DW.t (dw_or (dt_in (rm_u65 hr) (DE.b (de_str)) (DE.b (de_ix (DE.b (de_var 1)) (DE.b (de_int))))) (dw_or1 (dt_in (rm_u65 hr) (DE.b (de_str)) (DE.b (de_ix (DE.b (de_var 1)) (DE.b (de_int)))))))) (de_non) (de_tup (da_cons (de_ix (DE.b (de_var 1)) (DE.b (de_int))) (da_cons (de_ix (DE.b (de_var 1)) (DE.b (de_int))) (da_cons (de_ix (DE.b (de_var 1)) (DE.b (de_int))) (da_nil)))))))) (dss_nil)) (dss_one (ds_ret (de_non))))))))
set_option maxRecDepth 100000 in
theorem Tx.G_law_told (T : Tx K mg) (P : Program) (w : World) (base : Heap) : FnD P w K mg base 7 T.f_law_told T.d_law_told ["line"] true T.ca fn_law_told := by
  have sc := sc_law_told
  refine fn_mkD T.F_law_told sc (fun cdv A outer s H E hr tk hp => ?_)
  exact dss_one (ds_tryAs 1 sc.nd ⟨rfl, by decide, Or.inl T.mg_HeartError⟩ T.hi_HeartError tk (fun W pn xe tk hp => dss_one (ds_ret (de_call (T.G_read_step P w base) (fun z => z) rfl (hr.mono (by decide)) T.m_read_step T.F_read_step.kp T.b_read_step tk (da_cons (de_var 0) (da_nil)) (aCons_len (aNil_len))))) (fun a oe c pn hz hf => dss_cons (ds_set 2 sc.nd rfl (by first | exact Or.inl rfl | exact Or.inr rfl) (de_isTup [_, _, _, _, _, _, _, _, _, _] 1 List.mem_cons_self hz.zc hf (T.hx_NoTask_NoPlan_Known_Unknown_NoTime_Taken_Free_Knot_Strange_FullBox c) (pac_cons (pe_glob (v := .ref _) rfl T.mg_NoTask rfl (by decide)) rfl (pac_cons (pe_glob (v := .ref _) rfl T.mg_NoPlan rfl (by decide)) rfl (pac_cons (pe_glob (v := .ref _) rfl T.mg_Known rfl (by decide)) rfl (pac_cons (pe_glob (v := .ref _) rfl T.mg_Unknown rfl (by decide)) rfl (pac_cons (pe_glob (v := .ref _) rfl T.mg_NoTime rfl (by decide)) rfl (pac_cons (pe_glob (v := .ref _) rfl T.mg_Taken rfl (by decide)) rfl (pac_cons (pe_glob (v := .ref _) rfl T.mg_Free rfl (by decide)) rfl (pac_cons (pe_glob (v := .ref _) rfl T.mg_Knot rfl (by decide)) rfl (pac_cons (pe_glob (v := .ref _) rfl T.mg_Strange rfl (by decide)) rfl (pac_cons (pe_glob (v := .ref _) rfl T.mg_FullBox rfl (by decide)) rfl (pac_nil))))))))))) (Nat.le_of_ble_eq_true rfl) (T.hk_NoTask_NoPlan_Known_Unknown_NoTime_Taken_Free_Knot_Strange_FullBox c) (hm := T.n_isinstance))) (dss_one (ds_ret (de_if (DW.t (dw_and (dt_val (DE.b (de_isOwn 1 List.mem_cons_self hz.zc hf (T.hx_NoStep c) T.mg_NoStep (T.hk_NoStep c) (hm := T.n_isinstance)))) (dw_and (dt_val (DE.b (de_isBlt 1 List.mem_cons_self hz.zc hf (T.hx_ValueError c) T.n_ValueError rfl (T.hk_ValueError c) (hm := T.n_isinstance)))) (dw_and1 (dt_not (dt_val (DE.b (de_var 2)))))))) (de_str) (de_str))))))
set_option maxRecDepth 100000 in
theorem Tx.G_law_alike (T : Tx K mg) (P : Program) (w : World) (base : Heap) : FnD P w K mg base 1 T.f_law_alike T.d_law_alike ["found", "due"] true T.ca fn_law_alike := by
  have sc := sc_law_alike
  refine fn_mkD T.F_law_alike sc (fun cdv A outer s H E hr tk hp => ?_)
  exact dss_cons (ds_if (dt_is (DE.b (de_var 1)) (DE.b (de_non))) (dss_one (ds_ret (de_eq hr.units (DE.b (de_var 0)) (DE.b (de_str))))) (dss_nil)) (dss_cons (ds_if (DW.t (dw_or (dt_not (dt_val (DE.b (de_isi "tuple" (DE.b (de_var 0)) (by decide +kernel) rfl T.n_tuple (by decide) (by decide) rfl T.n_isinstance)))) (dw_or1 (dt_ne hr.units (DE.b (de_var 0)) (DE.b (de_var 1)))))) (dss_one (ds_ret (de_bl))) (dss_nil)) (dss_one (ds_ret (de_eq hr.units (DO.b (do_lc (own := [("part", 2)]) rfl sc.nd (di_any (de_var 0)) (blkOk_by (N := N_law_alike) (sc := defScope st_law_alike) (by decide +kernel)) (fun _ _ _ _ _ => dg_name 2 sc.nd rfl (by first | exact Or.inl rfl | exact Or.inr rfl)) (fun _ _ _ _ _ => dts_nil) (fun _ _ _ _ _ => de_isi "str" (DE.b (de_var 2)) (by decide +kernel) rfl T.n_str (by decide) (by decide) rfl T.n_isinstance))) (DO.b (do_lc (own := [("part", 2)]) rfl sc.nd (di_any (de_var 1)) (blkOk_by (N := N_law_alike) (sc := defScope st_law_alike) (by decide +kernel)) (fun _ _ _ _ _ => dg_name 2 sc.nd rfl (by first | exact Or.inl rfl | exact Or.inr rfl)) (fun _ _ _ _ _ => dts_nil) (fun _ _ _ _ _ => de_isi "str" (DE.b (de_var 2)) (by decide +kernel) rfl T.n_str (by decide) (by decide) rfl T.n_isinstance)))))))
set_option maxRecDepth 100000 in
theorem Tx.G_law (T : Tx K mg) (P : Program) (w : World) (base : Heap) : FnD P w K mg base 8 T.f_law T.d_law ["script"] true T.ca fn_law := by
  have sc := sc_law
  refine fn_mkD T.F_law sc (fun cdv A outer s H E hr tk hp => ?_)
  exact dss_cons (ds_set 1 sc.nd rfl (by first | exact Or.inl rfl | exact Or.inr rfl) (de_call (T.G_law_step_by P w base) (fun z => z) rfl (hr.mono (by decide)) T.m_law_step_by T.F_law_step_by.kp T.b_law_step_by tk (da_cons (de_call (T.G_law_cell_at P w base) (fun z => z) rfl (hr.mono (by decide)) T.m_law_cell_at T.F_law_cell_at.kp T.b_law_cell_at tk (da_cons (de_var 0) (da_cons (de_int) (da_nil))) (aCons_len (aCons_len (aNil_len)))) (da_nil)) (aCons_len (aNil_len)))) (dss_cons (ds_set 2 sc.nd rfl (by first | exact Or.inl rfl | exact Or.inr rfl) (de_call (T.G_shown_step P w base) (fun z => z) rfl (hr.mono (by decide)) T.m_shown_step T.F_shown_step.kp T.b_shown_step tk (da_cons (de_var 1) (da_nil)) (aCons_len (aNil_len)))) (dss_cons (ds_if (DW.t (dw_or (dt_not (dt_val (DE.b (de_isi "str" (DE.b (de_var 2)) (by decide +kernel) rfl T.n_str (by decide) (by decide) rfl T.n_isinstance)))) (dw_or1 (dt_ne hr.units (DE.b (de_var 2)) (DE.b (de_call (T.G_law_line P w base) (fun z => z) rfl (hr.mono (by decide)) T.m_law_line T.F_law_line.kp T.b_law_line tk (da_cons (de_var 1) (da_nil)) (aCons_len (aNil_len)))))))) (dss_one (ds_ret (de_bl))) (dss_nil)) (dss_cons (ds_if (dt_eq hr.units (DE.b (de_mod (DE.b (de_call (T.G_law_cell_at P w base) (fun z => z) rfl (hr.mono (by decide)) T.m_law_cell_at T.F_law_cell_at.kp T.b_law_cell_at tk (da_cons (de_var 0) (da_cons (de_int) (da_nil))) (aCons_len (aCons_len (aNil_len))))) (DE.b (de_int)))) (DE.b (de_int))) (dss_one (ds_set 2 sc.nd rfl (by first | exact Or.inl rfl | exact Or.inr rfl) (de_call (T.G_law_spoilt P w base) (fun z => z) rfl (hr.mono (by decide)) T.m_law_spoilt T.F_law_spoilt.kp T.b_law_spoilt tk (da_cons (de_var 2) (da_cons (de_call (T.G_law_cell_at P w base) (fun z => z) rfl (hr.mono (by decide)) T.m_law_cell_at T.F_law_cell_at.kp T.b_law_cell_at tk (da_cons (de_var 0) (da_cons (de_int) (da_nil))) (aCons_len (aCons_len (aNil_len)))) (da_cons (de_div (DE.b (de_call (T.G_law_cell_at P w base) (fun z => z) rfl (hr.mono (by decide)) T.m_law_cell_at T.F_law_cell_at.kp T.b_law_cell_at tk (da_cons (de_var 0) (da_cons (de_int) (da_nil))) (aCons_len (aCons_len (aNil_len))))) (DE.b (de_int))) (da_nil)))) (aCons_len (aCons_len (aCons_len (aNil_len))))))) (dss_nil)) (dss_cons (ds_if (DW.t (dw_or (dt_not (dt_val (DE.b (de_call (T.G_law_alike P w base) (fun z => z) rfl (hr.mono (by decide)) T.m_law_alike T.F_law_alike.kp T.b_law_alike tk (da_cons (de_call (T.G_law_told P w base) (fun z => z) rfl (hr.mono (by decide)) T.m_law_told T.F_law_told.kp T.b_law_told tk (da_cons (de_var 2) (da_nil)) (aCons_len (aNil_len))) (da_cons (de_call (T.G_law_due P w base) (fun z => z) rfl (hr.mono (by decide)) T.m_law_due T.F_law_due.kp T.b_law_due tk (da_cons (de_var 2) (da_nil)) (aCons_len (aNil_len))) (da_nil))) (aCons_len (aCons_len (aNil_len))))))) (dw_or1 (dt_ne hr.units (DE.b (de_call (T.G_law_told P w base) (fun z => z) rfl (hr.mono (by decide)) T.m_law_told T.F_law_told.kp T.b_law_told tk (da_cons (de_str) (da_nil)) (aCons_len (aNil_len)))) (DE.b (de_tup (da_cons (de_str) (da_nil)))))))) (dss_one (ds_ret (de_bl))) (dss_nil)) (dss_one (ds_ret (de_and (de_call (T.G_law_alike P w base) (fun z => z) rfl (hr.mono (by decide)) T.m_law_alike T.F_law_alike.kp T.b_law_alike tk (da_cons (de_call (T.G_law_told P w base) (fun z => z) rfl (hr.mono (by decide)) T.m_law_told T.F_law_told.kp T.b_law_told tk (da_cons (de_var 2) (da_nil)) (aCons_len (aNil_len))) (da_cons (de_call (T.G_law_due P w base) (fun z => z) rfl (hr.mono (by decide)) T.m_law_due T.F_law_due.kp T.b_law_due tk (da_cons (de_var 2) (da_nil)) (aCons_len (aNil_len))) (da_nil))) (aCons_len (aCons_len (aNil_len)))) (de_one (de_eq hr.units (DE.b (de_call (T.G_shown_step P w base) (fun z => z) rfl (hr.mono (by decide)) T.m_shown_step T.F_shown_step.kp T.b_shown_step tk (da_cons (de_var 1) (da_nil)) (aCons_len (aNil_len)))) (DE.b (de_call (T.G_law_line P w base) (fun z => z) rfl (hr.mono (by decide)) T.m_law_line T.F_law_line.kp T.b_law_line tk (da_cons (de_var 1) (da_nil)) (aCons_len (aNil_len)))))))))))))
end
/-! ### the end -/
theorem all_mk {l : PySem.W.OpenLaw} {w : World} {K : PySem.W.Frag} {h : Heap} {mg : Str → Option Value} {fa : Addr} (hlaw : ∀ ns : List Int, ns.length ≤ 63 → ∃ S', fn_law [.scr ns] [] = .ok (.f (.bl true)) S') (X : K.In h) (G : h.Ns mainGlobals mg) (hfa : mg "law" = some (.ref fa))
    {f0 f1 f2 f3 f4 f5 f6 f7 f8 f9 f10 f11 f12 f13 f14 f15 f16 f17 f18 f19 f20 f21 f22 f23 f24 C_HeartError C_NoStep C_NoTask C_NoPlan C_Known C_Unknown C_NoTime C_Taken C_Free C_Knot C_Strange C_FullBox : Addr}
    {od0 an0 od1 an1 od2 an2 od3 an3 od4 an4 od5 an5 od6 an6 od7 an7 od8 an8 od9 an9 od10 an10 od11 an11 od12 an12 od13 an13 od14 an14 od15 an15 od16 an16 od17 an17 od18 an18 od19 an19 od20 an20 od21 an21 od22 an22 od23 an23 od24 an24 : Option Addr} {sl0 sl1 sl2 sl3 sl4 sl5 sl6 sl7 sl8 sl9 sl10 sl11 sl12 sl13 sl14 sl15 sl16 sl17 sl18 sl19 sl20 sl21 sl22 sl23 sl24 : Array (Option Value)}
    {oc0 kV0 dc0 pm0 cd0 ct0 oc1 kV1 dc1 pm1 cd1 ct1 oc2 kV2 dc2 pm2 cd2 ct2 oc3 kV3 dc3 pm3 cd3 ct3 oc4 kV4 dc4 pm4 cd4 ct4 oc5 kV5 dc5 pm5 cd5 ct5 oc6 kV6 dc6 pm6 cd6 ct6 oc7 kV7 dc7 pm7 cd7 ct7 oc8 kV8 dc8 pm8 cd8 ct8 oc9 kV9 dc9 pm9 cd9 ct9 oc10 kV10 dc10 pm10 cd10 ct10 oc11 kV11 dc11 pm11 cd11 ct11 oc12 kV12 dc12 pm12 cd12 ct12 oc13 kV13 dc13 pm13 cd13 ct13 oc14 kV14 dc14 pm14 cd14 ct14 oc15 kV15 dc15 pm15 cd15 ct15 oc16 kV16 dc16 pm16 cd16 ct16 oc17 kV17 dc17 pm17 cd17 ct17 oc18 kV18 dc18 pm18 cd18 ct18 oc19 kV19 dc19 pm19 cd19 ct19 oc20 kV20 dc20 pm20 cd20 ct20 oc21 kV21 dc21 pm21 cd21 ct21 oc22 kV22 dc22 pm22 cd22 ct22 oc23 kV23 dc23 pm23 cd23 ct23 oc24 kV24 dc24 pm24 cd24 ct24 : Value}
    {t_MOST_NAME : Tok}
    {t_MOST_TURNS : Tok}
    {t_MOST_WORD : Tok}
    (g_HeartError : PySem.W.nsIn K mainGlobals "HeartError" = some (some (.ref C_HeartError)))
    (g_NoStep : PySem.W.nsIn K mainGlobals "NoStep" = some (some (.ref C_NoStep)))
    (g_NoTask : PySem.W.nsIn K mainGlobals "NoTask" = some (some (.ref C_NoTask)))
    (g_NoPlan : PySem.W.nsIn K mainGlobals "NoPlan" = some (some (.ref C_NoPlan)))
    (g_Known : PySem.W.nsIn K mainGlobals "Known" = some (some (.ref C_Known)))
    (g_Unknown : PySem.W.nsIn K mainGlobals "Unknown" = some (some (.ref C_Unknown)))
    (g_NoTime : PySem.W.nsIn K mainGlobals "NoTime" = some (some (.ref C_NoTime)))
    (g_Taken : PySem.W.nsIn K mainGlobals "Taken" = some (some (.ref C_Taken)))
    (g_Free : PySem.W.nsIn K mainGlobals "Free" = some (some (.ref C_Free)))
    (g_Knot : PySem.W.nsIn K mainGlobals "Knot" = some (some (.ref C_Knot)))
    (g_Strange : PySem.W.nsIn K mainGlobals "Strange" = some (some (.ref C_Strange)))
    (g_FullBox : PySem.W.nsIn K mainGlobals "FullBox" = some (some (.ref C_FullBox)))
    (a0 : PySem.W.nsIn K mainGlobals "is_letter" = some (some (.ref f0)))
    (l0 : K.lookup f0 = some ⟨oc0, od0, .func (PySem.W.fnOf "is_letter" "is_letter" (defArgs st_is_letter) (defBody st_is_letter) (defScope st_is_letter) .none kV0 dc0 pm0 an0 cd0 ct0), sl0⟩)
    (c0 : PySem.W.codeIn K cd0 "is_letter" = true)
    (k0 : PySem.W.keepIn K (.ref f0) = true)
    (a1 : PySem.W.nsIn K mainGlobals "is_figure" = some (some (.ref f1)))
    (l1 : K.lookup f1 = some ⟨oc1, od1, .func (PySem.W.fnOf "is_figure" "is_figure" (defArgs st_is_figure) (defBody st_is_figure) (defScope st_is_figure) .none kV1 dc1 pm1 an1 cd1 ct1), sl1⟩)
    (c1 : PySem.W.codeIn K cd1 "is_figure" = true)
    (k1 : PySem.W.keepIn K (.ref f1) = true)
    (a2 : PySem.W.nsIn K mainGlobals "is_name" = some (some (.ref f2)))
    (l2 : K.lookup f2 = some ⟨oc2, od2, .func (PySem.W.fnOf "is_name" "is_name" (defArgs st_is_name) (defBody st_is_name) (defScope st_is_name) .none kV2 dc2 pm2 an2 cd2 ct2), sl2⟩)
    (c2 : PySem.W.codeIn K cd2 "is_name" = true)
    (k2 : PySem.W.keepIn K (.ref f2) = true)
    (a3 : PySem.W.nsIn K mainGlobals "is_word" = some (some (.ref f3)))
    (l3 : K.lookup f3 = some ⟨oc3, od3, .func (PySem.W.fnOf "is_word" "is_word" (defArgs st_is_word) (defBody st_is_word) (defScope st_is_word) .none kV3 dc3 pm3 an3 cd3 ct3), sl3⟩)
    (c3 : PySem.W.codeIn K cd3 "is_word" = true)
    (k3 : PySem.W.keepIn K (.ref f3) = true)
    (a4 : PySem.W.nsIn K mainGlobals "is_number" = some (some (.ref f4)))
    (l4 : K.lookup f4 = some ⟨oc4, od4, .func (PySem.W.fnOf "is_number" "is_number" (defArgs st_is_number) (defBody st_is_number) (defScope st_is_number) .none kV4 dc4 pm4 an4 cd4 ct4), sl4⟩)
    (c4 : PySem.W.codeIn K cd4 "is_number" = true)
    (k4 : PySem.W.keepIn K (.ref f4) = true)
    (a5 : PySem.W.nsIn K mainGlobals "is_named" = some (some (.ref f5)))
    (l5 : K.lookup f5 = some ⟨oc5, od5, .func (PySem.W.fnOf "is_named" "is_named" (defArgs st_is_named) (defBody st_is_named) (defScope st_is_named) .none kV5 dc5 pm5 an5 cd5 ct5), sl5⟩)
    (c5 : PySem.W.codeIn K cd5 "is_named" = true)
    (k5 : PySem.W.keepIn K (.ref f5) = true)
    (a6 : PySem.W.nsIn K mainGlobals "is_pair" = some (some (.ref f6)))
    (l6 : K.lookup f6 = some ⟨oc6, od6, .func (PySem.W.fnOf "is_pair" "is_pair" (defArgs st_is_pair) (defBody st_is_pair) (defScope st_is_pair) .none kV6 dc6 pm6 an6 cd6 ct6), sl6⟩)
    (c6 : PySem.W.codeIn K cd6 "is_pair" = true)
    (k6 : PySem.W.keepIn K (.ref f6) = true)
    (a7 : PySem.W.nsIn K mainGlobals "is_triple" = some (some (.ref f7)))
    (l7 : K.lookup f7 = some ⟨oc7, od7, .func (PySem.W.fnOf "is_triple" "is_triple" (defArgs st_is_triple) (defBody st_is_triple) (defScope st_is_triple) .none kV7 dc7 pm7 an7 cd7 ct7), sl7⟩)
    (c7 : PySem.W.codeIn K cd7 "is_triple" = true)
    (k7 : PySem.W.keepIn K (.ref f7) = true)
    (a8 : PySem.W.nsIn K mainGlobals "is_step" = some (some (.ref f8)))
    (l8 : K.lookup f8 = some ⟨oc8, od8, .func (PySem.W.fnOf "is_step" "is_step" (defArgs st_is_step) (defBody st_is_step) (defScope st_is_step) .none kV8 dc8 pm8 an8 cd8 ct8), sl8⟩)
    (c8 : PySem.W.codeIn K cd8 "is_step" = true)
    (k8 : PySem.W.keepIn K (.ref f8) = true)
    (a9 : PySem.W.nsIn K mainGlobals "shown_step" = some (some (.ref f9)))
    (l9 : K.lookup f9 = some ⟨oc9, od9, .func (PySem.W.fnOf "shown_step" "shown_step" (defArgs st_shown_step) (defBody st_shown_step) (defScope st_shown_step) .none kV9 dc9 pm9 an9 cd9 ct9), sl9⟩)
    (c9 : PySem.W.codeIn K cd9 "shown_step" = true)
    (k9 : PySem.W.keepIn K (.ref f9) = true)
    (a10 : PySem.W.nsIn K mainGlobals "number_of" = some (some (.ref f10)))
    (l10 : K.lookup f10 = some ⟨oc10, od10, .func (PySem.W.fnOf "number_of" "number_of" (defArgs st_number_of) (defBody st_number_of) (defScope st_number_of) .none kV10 dc10 pm10 an10 cd10 ct10), sl10⟩)
    (c10 : PySem.W.codeIn K cd10 "number_of" = true)
    (k10 : PySem.W.keepIn K (.ref f10) = true)
    (a11 : PySem.W.nsIn K mainGlobals "read_step" = some (some (.ref f11)))
    (l11 : K.lookup f11 = some ⟨oc11, od11, .func (PySem.W.fnOf "read_step" "read_step" (defArgs st_read_step) (defBody st_read_step) (defScope st_read_step) .none kV11 dc11 pm11 an11 cd11 ct11), sl11⟩)
    (c11 : PySem.W.codeIn K cd11 "read_step" = true)
    (k11 : PySem.W.keepIn K (.ref f11) = true)
    (a12 : PySem.W.nsIn K mainGlobals "_law_cell_at" = some (some (.ref f12)))
    (l12 : K.lookup f12 = some ⟨oc12, od12, .func (PySem.W.fnOf "_law_cell_at" "_law_cell_at" (defArgs st_law_cell_at) (defBody st_law_cell_at) (defScope st_law_cell_at) .none kV12 dc12 pm12 an12 cd12 ct12), sl12⟩)
    (c12 : PySem.W.codeIn K cd12 "_law_cell_at" = true)
    (k12 : PySem.W.keepIn K (.ref f12) = true)
    (a13 : PySem.W.nsIn K mainGlobals "_law_sign_by" = some (some (.ref f13)))
    (l13 : K.lookup f13 = some ⟨oc13, od13, .func (PySem.W.fnOf "_law_sign_by" "_law_sign_by" (defArgs st_law_sign_by) (defBody st_law_sign_by) (defScope st_law_sign_by) .none kV13 dc13 pm13 an13 cd13 ct13), sl13⟩)
    (c13 : PySem.W.codeIn K cd13 "_law_sign_by" = true)
    (k13 : PySem.W.keepIn K (.ref f13) = true)
    (a14 : PySem.W.nsIn K mainGlobals "_law_name_by" = some (some (.ref f14)))
    (l14 : K.lookup f14 = some ⟨oc14, od14, .func (PySem.W.fnOf "_law_name_by" "_law_name_by" (defArgs st_law_name_by) (defBody st_law_name_by) (defScope st_law_name_by) .none kV14 dc14 pm14 an14 cd14 ct14), sl14⟩)
    (c14 : PySem.W.codeIn K cd14 "_law_name_by" = true)
    (k14 : PySem.W.keepIn K (.ref f14) = true)
    (a15 : PySem.W.nsIn K mainGlobals "_law_word_by" = some (some (.ref f15)))
    (l15 : K.lookup f15 = some ⟨oc15, od15, .func (PySem.W.fnOf "_law_word_by" "_law_word_by" (defArgs st_law_word_by) (defBody st_law_word_by) (defScope st_law_word_by) .none kV15 dc15 pm15 an15 cd15 ct15), sl15⟩)
    (c15 : PySem.W.codeIn K cd15 "_law_word_by" = true)
    (k15 : PySem.W.keepIn K (.ref f15) = true)
    (a16 : PySem.W.nsIn K mainGlobals "_law_step_by" = some (some (.ref f16)))
    (l16 : K.lookup f16 = some ⟨oc16, od16, .func (PySem.W.fnOf "_law_step_by" "_law_step_by" (defArgs st_law_step_by) (defBody st_law_step_by) (defScope st_law_step_by) .none kV16 dc16 pm16 an16 cd16 ct16), sl16⟩)
    (c16 : PySem.W.codeIn K cd16 "_law_step_by" = true)
    (k16 : PySem.W.keepIn K (.ref f16) = true)
    (a17 : PySem.W.nsIn K mainGlobals "_law_line" = some (some (.ref f17)))
    (l17 : K.lookup f17 = some ⟨oc17, od17, .func (PySem.W.fnOf "_law_line" "_law_line" (defArgs st_law_line) (defBody st_law_line) (defScope st_law_line) .none kV17 dc17 pm17 an17 cd17 ct17), sl17⟩)
    (c17 : PySem.W.codeIn K cd17 "_law_line" = true)
    (k17 : PySem.W.keepIn K (.ref f17) = true)
    (a18 : PySem.W.nsIn K mainGlobals "_law_spoilt" = some (some (.ref f18)))
    (l18 : K.lookup f18 = some ⟨oc18, od18, .func (PySem.W.fnOf "_law_spoilt" "_law_spoilt" (defArgs st_law_spoilt) (defBody st_law_spoilt) (defScope st_law_spoilt) .none kV18 dc18 pm18 an18 cd18 ct18), sl18⟩)
    (c18 : PySem.W.codeIn K cd18 "_law_spoilt" = true)
    (k18 : PySem.W.keepIn K (.ref f18) = true)
    (a19 : PySem.W.nsIn K mainGlobals "_law_name" = some (some (.ref f19)))
    (l19 : K.lookup f19 = some ⟨oc19, od19, .func (PySem.W.fnOf "_law_name" "_law_name" (defArgs st_law_name) (defBody st_law_name) (defScope st_law_name) .none kV19 dc19 pm19 an19 cd19 ct19), sl19⟩)
    (c19 : PySem.W.codeIn K cd19 "_law_name" = true)
    (k19 : PySem.W.keepIn K (.ref f19) = true)
    (a20 : PySem.W.nsIn K mainGlobals "_law_number" = some (some (.ref f20)))
    (l20 : K.lookup f20 = some ⟨oc20, od20, .func (PySem.W.fnOf "_law_number" "_law_number" (defArgs st_law_number) (defBody st_law_number) (defScope st_law_number) .none kV20 dc20 pm20 an20 cd20 ct20), sl20⟩)
    (c20 : PySem.W.codeIn K cd20 "_law_number" = true)
    (k20 : PySem.W.keepIn K (.ref f20) = true)
    (a21 : PySem.W.nsIn K mainGlobals "_law_due" = some (some (.ref f21)))
    (l21 : K.lookup f21 = some ⟨oc21, od21, .func (PySem.W.fnOf "_law_due" "_law_due" (defArgs st_law_due) (defBody st_law_due) (defScope st_law_due) .none kV21 dc21 pm21 an21 cd21 ct21), sl21⟩)
    (c21 : PySem.W.codeIn K cd21 "_law_due" = true)
    (k21 : PySem.W.keepIn K (.ref f21) = true)
    (a22 : PySem.W.nsIn K mainGlobals "_law_told" = some (some (.ref f22)))
    (l22 : K.lookup f22 = some ⟨oc22, od22, .func (PySem.W.fnOf "_law_told" "_law_told" (defArgs st_law_told) (defBody st_law_told) (defScope st_law_told) .none kV22 dc22 pm22 an22 cd22 ct22), sl22⟩)
    (c22 : PySem.W.codeIn K cd22 "_law_told" = true)
    (k22 : PySem.W.keepIn K (.ref f22) = true)
    (a23 : PySem.W.nsIn K mainGlobals "_law_alike" = some (some (.ref f23)))
    (l23 : K.lookup f23 = some ⟨oc23, od23, .func (PySem.W.fnOf "_law_alike" "_law_alike" (defArgs st_law_alike) (defBody st_law_alike) (defScope st_law_alike) .none kV23 dc23 pm23 an23 cd23 ct23), sl23⟩)
    (c23 : PySem.W.codeIn K cd23 "_law_alike" = true)
    (k23 : PySem.W.keepIn K (.ref f23) = true)
    (a24 : PySem.W.nsIn K mainGlobals "law" = some (some (.ref f24)))
    (l24 : K.lookup f24 = some ⟨oc24, od24, .func (PySem.W.fnOf "law" "law" (defArgs st_law) (defBody st_law) (defScope st_law) .none kV24 dc24 pm24 an24 cd24 ct24), sl24⟩)
    (c24 : PySem.W.codeIn K cd24 "law" = true)
    (k24 : PySem.W.keepIn K (.ref f24) = true)
    (z_ValueError : PySem.W.nsIn K mainGlobals "ValueError" = some none)
    (z_all : PySem.W.nsIn K mainGlobals "all" = some none)
    (z_int : PySem.W.nsIn K mainGlobals "int" = some none)
    (z_isinstance : PySem.W.nsIn K mainGlobals "isinstance" = some none)
    (z_len : PySem.W.nsIn K mainGlobals "len" = some none)
    (z_ord : PySem.W.nsIn K mainGlobals "ord" = some none)
    (z_range : PySem.W.nsIn K mainGlobals "range" = some none)
    (z_str : PySem.W.nsIn K mainGlobals "str" = some none)
    (z_tuple : PySem.W.nsIn K mainGlobals "tuple" = some none)
    (v_MOST_NAME : PySem.W.nsIn K mainGlobals "MOST_NAME" = some (some (.int 8 t_MOST_NAME)))
    (v_MOST_TURNS : PySem.W.nsIn K mainGlobals "MOST_TURNS" = some (some (.int 1000 t_MOST_TURNS)))
    (v_MOST_WORD : PySem.W.nsIn K mainGlobals "MOST_WORD" = some (some (.int 12 t_MOST_WORD)))
    (xq_HeartError : PySem.W.excIn K C_HeartError [.type "ValueError", .type "Exception", .type "BaseException", .type "object"] "ValueError.__new__" = true)
    (xk_HeartError : PySem.W.keepIn K (.ref C_HeartError) = true)
    (xb_HeartError : PySem.W.subIn K (.ref C_HeartError) (.type "BaseException") = some true)
    (xt_HeartError : PySem.W.typeIn K (.ref C_HeartError) = some (.type "type"))
    (xi_HeartError : PySem.W.isClsIn K C_HeartError = true)
    (xq_NoStep : PySem.W.excIn K C_NoStep [.type "ValueError", .type "Exception", .type "BaseException", .type "object"] "ValueError.__new__" = true)
    (xk_NoStep : PySem.W.keepIn K (.ref C_NoStep) = true)
    (xb_NoStep : PySem.W.subIn K (.ref C_NoStep) (.type "BaseException") = some true)
    (xt_NoStep : PySem.W.typeIn K (.ref C_NoStep) = some (.type "type"))
    (xi_NoStep : PySem.W.isClsIn K C_NoStep = true)
    (xq_NoTask : PySem.W.excIn K C_NoTask [.type "ValueError", .type "Exception", .type "BaseException", .type "object"] "ValueError.__new__" = true)
    (xk_NoTask : PySem.W.keepIn K (.ref C_NoTask) = true)
    (xb_NoTask : PySem.W.subIn K (.ref C_NoTask) (.type "BaseException") = some true)
    (xt_NoTask : PySem.W.typeIn K (.ref C_NoTask) = some (.type "type"))
    (xi_NoTask : PySem.W.isClsIn K C_NoTask = true)
    (xq_NoPlan : PySem.W.excIn K C_NoPlan [.type "ValueError", .type "Exception", .type "BaseException", .type "object"] "ValueError.__new__" = true)
    (xk_NoPlan : PySem.W.keepIn K (.ref C_NoPlan) = true)
    (xb_NoPlan : PySem.W.subIn K (.ref C_NoPlan) (.type "BaseException") = some true)
    (xt_NoPlan : PySem.W.typeIn K (.ref C_NoPlan) = some (.type "type"))
    (xi_NoPlan : PySem.W.isClsIn K C_NoPlan = true)
    (xq_Known : PySem.W.excIn K C_Known [.type "ValueError", .type "Exception", .type "BaseException", .type "object"] "ValueError.__new__" = true)
    (xk_Known : PySem.W.keepIn K (.ref C_Known) = true)
    (xb_Known : PySem.W.subIn K (.ref C_Known) (.type "BaseException") = some true)
    (xt_Known : PySem.W.typeIn K (.ref C_Known) = some (.type "type"))
    (xi_Known : PySem.W.isClsIn K C_Known = true)
    (xq_Unknown : PySem.W.excIn K C_Unknown [.type "ValueError", .type "Exception", .type "BaseException", .type "object"] "ValueError.__new__" = true)
    (xk_Unknown : PySem.W.keepIn K (.ref C_Unknown) = true)
    (xb_Unknown : PySem.W.subIn K (.ref C_Unknown) (.type "BaseException") = some true)
    (xt_Unknown : PySem.W.typeIn K (.ref C_Unknown) = some (.type "type"))
    (xi_Unknown : PySem.W.isClsIn K C_Unknown = true)
    (xq_NoTime : PySem.W.excIn K C_NoTime [.type "ValueError", .type "Exception", .type "BaseException", .type "object"] "ValueError.__new__" = true)
    (xk_NoTime : PySem.W.keepIn K (.ref C_NoTime) = true)
    (xb_NoTime : PySem.W.subIn K (.ref C_NoTime) (.type "BaseException") = some true)
    (xt_NoTime : PySem.W.typeIn K (.ref C_NoTime) = some (.type "type"))
    (xi_NoTime : PySem.W.isClsIn K C_NoTime = true)
    (xq_Taken : PySem.W.excIn K C_Taken [.type "ValueError", .type "Exception", .type "BaseException", .type "object"] "ValueError.__new__" = true)
    (xk_Taken : PySem.W.keepIn K (.ref C_Taken) = true)
    (xb_Taken : PySem.W.subIn K (.ref C_Taken) (.type "BaseException") = some true)
    (xt_Taken : PySem.W.typeIn K (.ref C_Taken) = some (.type "type"))
    (xi_Taken : PySem.W.isClsIn K C_Taken = true)
    (xq_Free : PySem.W.excIn K C_Free [.type "ValueError", .type "Exception", .type "BaseException", .type "object"] "ValueError.__new__" = true)
    (xk_Free : PySem.W.keepIn K (.ref C_Free) = true)
    (xb_Free : PySem.W.subIn K (.ref C_Free) (.type "BaseException") = some true)
    (xt_Free : PySem.W.typeIn K (.ref C_Free) = some (.type "type"))
    (xi_Free : PySem.W.isClsIn K C_Free = true)
    (xq_Knot : PySem.W.excIn K C_Knot [.type "ValueError", .type "Exception", .type "BaseException", .type "object"] "ValueError.__new__" = true)
    (xk_Knot : PySem.W.keepIn K (.ref C_Knot) = true)
    (xb_Knot : PySem.W.subIn K (.ref C_Knot) (.type "BaseException") = some true)
    (xt_Knot : PySem.W.typeIn K (.ref C_Knot) = some (.type "type"))
    (xi_Knot : PySem.W.isClsIn K C_Knot = true)
    (xq_Strange : PySem.W.excIn K C_Strange [.type "ValueError", .type "Exception", .type "BaseException", .type "object"] "ValueError.__new__" = true)
    (xk_Strange : PySem.W.keepIn K (.ref C_Strange) = true)
    (xb_Strange : PySem.W.subIn K (.ref C_Strange) (.type "BaseException") = some true)
    (xt_Strange : PySem.W.typeIn K (.ref C_Strange) = some (.type "type"))
    (xi_Strange : PySem.W.isClsIn K C_Strange = true)
    (xq_FullBox : PySem.W.excIn K C_FullBox [.type "ValueError", .type "Exception", .type "BaseException", .type "object"] "ValueError.__new__" = true)
    (xk_FullBox : PySem.W.keepIn K (.ref C_FullBox) = true)
    (xb_FullBox : PySem.W.subIn K (.ref C_FullBox) (.type "BaseException") = some true)
    (xt_FullBox : PySem.W.typeIn K (.ref C_FullBox) = some (.type "type"))
    (xi_FullBox : PySem.W.isClsIn K C_FullBox = true)
    (e1_NoStep : PySem.W.findIn K (.ref C_NoStep) "__getattribute__" = some (some (.builtin "BaseException.__getattribute__")))
    (e2_NoStep : PySem.W.findIn K (.ref C_NoStep) "__getattr__" = some none)
    (e3_NoStep : PySem.W.hasDictIn K C_NoStep = true)
    (e4_NoStep : PySem.W.findIn K (.ref C_NoStep) "__class__" = some (some (.builtin "object.__class__")))
    (e5_NoStep : PySem.W.mroIn K C_NoStep (.type "object") = some true)
    (e6 : PySem.W.specialIn K (.builtin "object.__class__") "__get__" = some (some (.builtin "getset_descriptor.__get__")))
    (e7 : PySem.W.takesIn K (.builtin "object.__class__") = some true)
    (s_NoStep_HeartError : PySem.W.subIn K (.ref C_NoStep) (.ref C_HeartError) = some true)
    (k_NoStep_NoTask : PySem.W.kitOne K (.ref C_NoStep) (.ref C_NoTask) = some false)
    (k_NoStep_NoPlan : PySem.W.kitOne K (.ref C_NoStep) (.ref C_NoPlan) = some false)
    (k_NoStep_Known : PySem.W.kitOne K (.ref C_NoStep) (.ref C_Known) = some false)
    (k_NoStep_Unknown : PySem.W.kitOne K (.ref C_NoStep) (.ref C_Unknown) = some false)
    (k_NoStep_NoTime : PySem.W.kitOne K (.ref C_NoStep) (.ref C_NoTime) = some false)
    (k_NoStep_Taken : PySem.W.kitOne K (.ref C_NoStep) (.ref C_Taken) = some false)
    (k_NoStep_Free : PySem.W.kitOne K (.ref C_NoStep) (.ref C_Free) = some false)
    (k_NoStep_Knot : PySem.W.kitOne K (.ref C_NoStep) (.ref C_Knot) = some false)
    (k_NoStep_Strange : PySem.W.kitOne K (.ref C_NoStep) (.ref C_Strange) = some false)
    (k_NoStep_FullBox : PySem.W.kitOne K (.ref C_NoStep) (.ref C_FullBox) = some false)
    (k_NoStep_NoStep : PySem.W.kitOne K (.ref C_NoStep) (.ref C_NoStep) = some true)
    (k_NoStep_ValueError : PySem.W.kitOne K (.ref C_NoStep) (.type "ValueError") = some true)
    : ∃ fd : FuncData, (∀ (s : Shared) (v : Value), BindsTo s fd ⟨[v], []⟩ [("script", v)]) ∧ ∀ base : Heap, K.In base → base.Ns mainGlobals mg → FnOk l.prog w K mg base (CXf l.prog w) 8 fa fd ["script"] (lawSp K) := by
  have e := hfa.symm.trans (PySem.W.mg_of X G a24)
  cases e
  obtain ⟨ad, had⟩ : ∃ ad : Str → Addr, ad = fun (s : Str) => if s = "HeartError" then C_HeartError else if s = "NoStep" then C_NoStep else if s = "NoTask" then C_NoTask else if s = "NoPlan" then C_NoPlan else if s = "Known" then C_Known else if s = "Unknown" then C_Unknown else if s = "NoTime" then C_NoTime else if s = "Taken" then C_Taken else if s = "Free" then C_Free else if s = "Knot" then C_Knot else if s = "Strange" then C_Strange else if s = "FullBox" then C_FullBox else 0 := ⟨_, rfl⟩
  have q_HeartError : ad "HeartError" = C_HeartError := (congrFun had _).trans (if_pos rfl)
  have q_NoStep : ad "NoStep" = C_NoStep := (congrFun had _).trans ((if_neg (by decide)).trans (if_pos rfl))
  have q_NoTask : ad "NoTask" = C_NoTask := (congrFun had _).trans ((if_neg (by decide)).trans ((if_neg (by decide)).trans (if_pos rfl)))
  have q_NoPlan : ad "NoPlan" = C_NoPlan := (congrFun had _).trans ((if_neg (by decide)).trans ((if_neg (by decide)).trans ((if_neg (by decide)).trans (if_pos rfl))))
  have q_Known : ad "Known" = C_Known := (congrFun had _).trans ((if_neg (by decide)).trans ((if_neg (by decide)).trans ((if_neg (by decide)).trans ((if_neg (by decide)).trans (if_pos rfl)))))
  have q_Unknown : ad "Unknown" = C_Unknown := (congrFun had _).trans ((if_neg (by decide)).trans ((if_neg (by decide)).trans ((if_neg (by decide)).trans ((if_neg (by decide)).trans ((if_neg (by decide)).trans (if_pos rfl))))))
  have q_NoTime : ad "NoTime" = C_NoTime := (congrFun had _).trans ((if_neg (by decide)).trans ((if_neg (by decide)).trans ((if_neg (by decide)).trans ((if_neg (by decide)).trans ((if_neg (by decide)).trans ((if_neg (by decide)).trans (if_pos rfl)))))))
  have q_Taken : ad "Taken" = C_Taken := (congrFun had _).trans ((if_neg (by decide)).trans ((if_neg (by decide)).trans ((if_neg (by decide)).trans ((if_neg (by decide)).trans ((if_neg (by decide)).trans ((if_neg (by decide)).trans ((if_neg (by decide)).trans (if_pos rfl))))))))
  have q_Free : ad "Free" = C_Free := (congrFun had _).trans ((if_neg (by decide)).trans ((if_neg (by decide)).trans ((if_neg (by decide)).trans ((if_neg (by decide)).trans ((if_neg (by decide)).trans ((if_neg (by decide)).trans ((if_neg (by decide)).trans ((if_neg (by decide)).trans (if_pos rfl)))))))))
  have q_Knot : ad "Knot" = C_Knot := (congrFun had _).trans ((if_neg (by decide)).trans ((if_neg (by decide)).trans ((if_neg (by decide)).trans ((if_neg (by decide)).trans ((if_neg (by decide)).trans ((if_neg (by decide)).trans ((if_neg (by decide)).trans ((if_neg (by decide)).trans ((if_neg (by decide)).trans (if_pos rfl))))))))))
  have q_Strange : ad "Strange" = C_Strange := (congrFun had _).trans ((if_neg (by decide)).trans ((if_neg (by decide)).trans ((if_neg (by decide)).trans ((if_neg (by decide)).trans ((if_neg (by decide)).trans ((if_neg (by decide)).trans ((if_neg (by decide)).trans ((if_neg (by decide)).trans ((if_neg (by decide)).trans ((if_neg (by decide)).trans (if_pos rfl)))))))))))
  have q_FullBox : ad "FullBox" = C_FullBox := (congrFun had _).trans ((if_neg (by decide)).trans ((if_neg (by decide)).trans ((if_neg (by decide)).trans ((if_neg (by decide)).trans ((if_neg (by decide)).trans ((if_neg (by decide)).trans ((if_neg (by decide)).trans ((if_neg (by decide)).trans ((if_neg (by decide)).trans ((if_neg (by decide)).trans ((if_neg (by decide)).trans (if_pos rfl))))))))))))
  have F0 := fun_mk (st := st_is_letter) l0 c0 k0
  have b0 := F0.binds (ps := ["sign"]) fun _ _ _ _ _ _ us hl => match us, hl with | [_], _ => rfl
  have F1 := fun_mk (st := st_is_figure) l1 c1 k1
  have b1 := F1.binds (ps := ["sign"]) fun _ _ _ _ _ _ us hl => match us, hl with | [_], _ => rfl
  have F2 := fun_mk (st := st_is_name) l2 c2 k2
  have b2 := F2.binds (ps := ["text"]) fun _ _ _ _ _ _ us hl => match us, hl with | [_], _ => rfl
  have F3 := fun_mk (st := st_is_word) l3 c3 k3
  have b3 := F3.binds (ps := ["text"]) fun _ _ _ _ _ _ us hl => match us, hl with | [_], _ => rfl
  have F4 := fun_mk (st := st_is_number) l4 c4 k4
  have b4 := F4.binds (ps := ["part", "low"]) fun _ _ _ _ _ _ us hl => match us, hl with | [_, _], _ => rfl
  have F5 := fun_mk (st := st_is_named) l5 c5 k5
  have b5 := F5.binds (ps := ["part"]) fun _ _ _ _ _ _ us hl => match us, hl with | [_], _ => rfl
  have F6 := fun_mk (st := st_is_pair) l6 c6 k6
  have b6 := F6.binds (ps := ["step"]) fun _ _ _ _ _ _ us hl => match us, hl with | [_], _ => rfl
  have F7 := fun_mk (st := st_is_triple) l7 c7 k7
  have b7 := F7.binds (ps := ["step"]) fun _ _ _ _ _ _ us hl => match us, hl with | [_], _ => rfl
  have F8 := fun_mk (st := st_is_step) l8 c8 k8
  have b8 := F8.binds (ps := ["step"]) fun _ _ _ _ _ _ us hl => match us, hl with | [_], _ => rfl
  have F9 := fun_mk (st := st_shown_step) l9 c9 k9
  have b9 := F9.binds (ps := ["step"]) fun _ _ _ _ _ _ us hl => match us, hl with | [_], _ => rfl
  have F10 := fun_mk (st := st_number_of) l10 c10 k10
  have b10 := F10.binds (ps := ["word"]) fun _ _ _ _ _ _ us hl => match us, hl with | [_], _ => rfl
  have F11 := fun_mk (st := st_read_step) l11 c11 k11
  have b11 := F11.binds (ps := ["text"]) fun _ _ _ _ _ _ us hl => match us, hl with | [_], _ => rfl
  have F12 := fun_mk (st := st_law_cell_at) l12 c12 k12
  have b12 := F12.binds (ps := ["script", "k"]) fun _ _ _ _ _ _ us hl => match us, hl with | [_, _], _ => rfl
  have F13 := fun_mk (st := st_law_sign_by) l13 c13 k13
  have b13 := F13.binds (ps := ["cell"]) fun _ _ _ _ _ _ us hl => match us, hl with | [_], _ => rfl
  have F14 := fun_mk (st := st_law_name_by) l14 c14 k14
  have b14 := F14.binds (ps := ["cell"]) fun _ _ _ _ _ _ us hl => match us, hl with | [_], _ => rfl
  have F15 := fun_mk (st := st_law_word_by) l15 c15 k15
  have b15 := F15.binds (ps := ["cell"]) fun _ _ _ _ _ _ us hl => match us, hl with | [_], _ => rfl
  have F16 := fun_mk (st := st_law_step_by) l16 c16 k16
  have b16 := F16.binds (ps := ["cell"]) fun _ _ _ _ _ _ us hl => match us, hl with | [_], _ => rfl
  have F17 := fun_mk (st := st_law_line) l17 c17 k17
  have b17 := F17.binds (ps := ["step"]) fun _ _ _ _ _ _ us hl => match us, hl with | [_], _ => rfl
  have F18 := fun_mk (st := st_law_spoilt) l18 c18 k18
  have b18 := F18.binds (ps := ["line", "cell", "draw"]) fun _ _ _ _ _ _ us hl => match us, hl with | [_, _, _], _ => rfl
  have F19 := fun_mk (st := st_law_name) l19 c19 k19
  have b19 := F19.binds (ps := ["part"]) fun _ _ _ _ _ _ us hl => match us, hl with | [_], _ => rfl
  have F20 := fun_mk (st := st_law_number) l20 c20 k20
  have b20 := F20.binds (ps := ["part", "low"]) fun _ _ _ _ _ _ us hl => match us, hl with | [_, _], _ => rfl
  have F21 := fun_mk (st := st_law_due) l21 c21 k21
  have b21 := F21.binds (ps := ["line"]) fun _ _ _ _ _ _ us hl => match us, hl with | [_], _ => rfl
  have F22 := fun_mk (st := st_law_told) l22 c22 k22
  have b22 := F22.binds (ps := ["line"]) fun _ _ _ _ _ _ us hl => match us, hl with | [_], _ => rfl
  have F23 := fun_mk (st := st_law_alike) l23 c23 k23
  have b23 := F23.binds (ps := ["found", "due"]) fun _ _ _ _ _ _ us hl => match us, hl with | [_, _], _ => rfl
  have F24 := fun_mk (st := st_law) l24 c24 k24
  have b24 := F24.binds (ps := ["script"]) fun _ _ _ _ _ _ us hl => match us, hl with | [_], _ => rfl
  have T : { T : Tx K mg // T.f_law = fa ∧ T.d_law = PySem.W.fnOf "law" "law" (defArgs st_law) (defBody st_law) (defScope st_law) .none kV24 dc24 pm24 an24 cd24 ct24 } := ⟨⟨ad, f0, _, F0, PySem.W.mg_of X G a0, b0, f1, _, F1, PySem.W.mg_of X G a1, b1, f2, _, F2, PySem.W.mg_of X G a2, b2, f3, _, F3, PySem.W.mg_of X G a3, b3, f4, _, F4, PySem.W.mg_of X G a4, b4, f5, _, F5, PySem.W.mg_of X G a5, b5, f6, _, F6, PySem.W.mg_of X G a6, b6, f7, _, F7, PySem.W.mg_of X G a7, b7, f8, _, F8, PySem.W.mg_of X G a8, b8, f9, _, F9, PySem.W.mg_of X G a9, b9, f10, _, F10, PySem.W.mg_of X G a10, b10, f11, _, F11, PySem.W.mg_of X G a11, b11, f12, _, F12, PySem.W.mg_of X G a12, b12, f13, _, F13, PySem.W.mg_of X G a13, b13, f14, _, F14, PySem.W.mg_of X G a14, b14, f15, _, F15, PySem.W.mg_of X G a15, b15, f16, _, F16, PySem.W.mg_of X G a16, b16, f17, _, F17, PySem.W.mg_of X G a17, b17, f18, _, F18, PySem.W.mg_of X G a18, b18, f19, _, F19, PySem.W.mg_of X G a19, b19, f20, _, F20, PySem.W.mg_of X G a20, b20, f21, _, F21, PySem.W.mg_of X G a21, b21, f22, _, F22, PySem.W.mg_of X G a22, b22, f23, _, F23, PySem.W.mg_of X G a23, b23, fa, _, F24, PySem.W.mg_of X G a24, b24, PySem.W.mg_none_of X G z_ValueError, PySem.W.mg_none_of X G z_all, PySem.W.mg_none_of X G z_int, PySem.W.mg_none_of X G z_isinstance, PySem.W.mg_none_of X G z_len, PySem.W.mg_none_of X G z_ord, PySem.W.mg_none_of X G z_range, PySem.W.mg_none_of X G z_str, PySem.W.mg_none_of X G z_tuple, t_MOST_NAME, PySem.W.mg_of X G v_MOST_NAME, t_MOST_TURNS, PySem.W.mg_of X G v_MOST_TURNS, t_MOST_WORD, PySem.W.mg_of X G v_MOST_WORD, by rw [q_HeartError]; exact ⟨xq_HeartError, PySem.W.mg_of X G g_HeartError, xk_HeartError, xb_HeartError, xt_HeartError, xi_HeartError⟩, by rw [q_NoStep]; exact ⟨xq_NoStep, PySem.W.mg_of X G g_NoStep, xk_NoStep, xb_NoStep, xt_NoStep, xi_NoStep⟩, by rw [q_NoTask]; exact ⟨xq_NoTask, PySem.W.mg_of X G g_NoTask, xk_NoTask, xb_NoTask, xt_NoTask, xi_NoTask⟩, by rw [q_NoPlan]; exact ⟨xq_NoPlan, PySem.W.mg_of X G g_NoPlan, xk_NoPlan, xb_NoPlan, xt_NoPlan, xi_NoPlan⟩, by rw [q_Known]; exact ⟨xq_Known, PySem.W.mg_of X G g_Known, xk_Known, xb_Known, xt_Known, xi_Known⟩, by rw [q_Unknown]; exact ⟨xq_Unknown, PySem.W.mg_of X G g_Unknown, xk_Unknown, xb_Unknown, xt_Unknown, xi_Unknown⟩, by rw [q_NoTime]; exact ⟨xq_NoTime, PySem.W.mg_of X G g_NoTime, xk_NoTime, xb_NoTime, xt_NoTime, xi_NoTime⟩, by rw [q_Taken]; exact ⟨xq_Taken, PySem.W.mg_of X G g_Taken, xk_Taken, xb_Taken, xt_Taken, xi_Taken⟩, by rw [q_Free]; exact ⟨xq_Free, PySem.W.mg_of X G g_Free, xk_Free, xb_Free, xt_Free, xi_Free⟩, by rw [q_Knot]; exact ⟨xq_Knot, PySem.W.mg_of X G g_Knot, xk_Knot, xb_Knot, xt_Knot, xi_Knot⟩, by rw [q_Strange]; exact ⟨xq_Strange, PySem.W.mg_of X G g_Strange, xk_Strange, xb_Strange, xt_Strange, xi_Strange⟩, by rw [q_FullBox]; exact ⟨xq_FullBox, PySem.W.mg_of X G g_FullBox, xk_FullBox, xb_FullBox, xt_FullBox, xi_FullBox⟩, by rw [q_NoStep]; exact ⟨e1_NoStep, e2_NoStep, xb_NoStep, e3_NoStep, e4_NoStep, e6, e7, e5_NoStep⟩, by rw [q_NoStep, q_HeartError]; exact s_NoStep_HeartError, by rw [q_NoStep, q_NoTask]; exact k_NoStep_NoTask, by rw [q_NoStep, q_NoPlan]; exact k_NoStep_NoPlan, by rw [q_NoStep, q_Known]; exact k_NoStep_Known, by rw [q_NoStep, q_Unknown]; exact k_NoStep_Unknown, by rw [q_NoStep, q_NoTime]; exact k_NoStep_NoTime, by rw [q_NoStep, q_Taken]; exact k_NoStep_Taken, by rw [q_NoStep, q_Free]; exact k_NoStep_Free, by rw [q_NoStep, q_Knot]; exact k_NoStep_Knot, by rw [q_NoStep, q_Strange]; exact k_NoStep_Strange, by rw [q_NoStep, q_FullBox]; exact k_NoStep_FullBox, by rw [q_NoStep]; exact k_NoStep_NoStep, by rw [q_NoStep]; exact k_NoStep_ValueError⟩, rfl, rfl⟩
  obtain ⟨T, e1, e2⟩ := T
  exact ⟨PySem.W.fnOf "law" "law" (defArgs st_law) (defBody st_law) (defScope st_law) .none kV24 dc24 pm24 an24 cd24 ct24, fun s v => .of_eq rfl, fun base _ _ => by rw [← e1, ← e2]; exact (T.G_law l.prog w base).imp (law_imp rfl hlaw)⟩
theorem walk {l : PySem.W.OpenLaw} {q : Program} {loose : List Str} {XP : (Str → Option Value) → Heap → Prop} {YP : World → Heap → Prop} {d : DefRec} {K : Params → PySem.W.Frag} (hn : l.most = some 63) (hdf : d.params.defaults = [])
    (hY : ∀ (w : World) (h : Heap), YP w h → (K w.params).In h)
    (F : ∀ (w : World) (mg : Str → Option Value) (fa : Addr) (h : Heap), (K w.params).In h → h.Ns mainGlobals mg → mg d.name = some (.ref fa) →
      ∃ fd : FuncData, (∀ (s : Shared) (u : Value), BindsTo s fd ⟨[u], []⟩ [("script", u)]) ∧ ∀ base : Heap, (K w.params).In base → base.Ns mainGlobals mg → FnOk l.prog w (K w.params) mg base (CXf l.prog w) 8 fa fd ["script"] (lawSp (K w.params))) :
    PySem.W.WalkO q loose XP YP l.row.toRowW d [] (fun f vs => PySem.call f vs) :=
  L2.walk_of (n := 63) (k := 8) (x := "script") (CX := fun w => CXf l.prog w) (sp := fun w => lawSp (K w.params)) hn (by decide) hdf ⟨rfl, by decide, by decide⟩ hY F
    (fun _ _ a ns hl hO hS => ⟨a, ns, rfl, hl, hO, hS, fun _ => rfl⟩) fun _ _ _ _ _ ⟨_, _, _, _, _, _, _, _, _, _, _, _, z⟩ => z

local macro_rules | `(tactic| walk_at "ev") => `(tactic| simp only [bind_S, liftS_S, bindR_ok, bindR_exc, bindR_bad, liftR_ok, liftR_exc, liftR_bad, ret_S, bad_S, raise_S, lift_some_S, lift_none_S, quiet_S, quietR_ok, quietR_exc, quietR_bad, ite_S, fnD_S, objF_S, fldO_S, setB_S, mkO_S, noEx_S, dropS_S, fnX_S, anyA_const, fvD, fvE, putW, initE, evs_nil, evs_cons, eO_S, eVar_S, eC_S, eVarB_S, aNil_S, aCons_S, eTup_S, eLst_S, eBin_S, tBin_S, oCat_S, tAndD_S, tOrD_S, tNotD_S, eAndD_S, eOrD_S, eNotD_S, eNegD_S, tValD_S, eIfD_S, oPart_S, oSl_S, eSl_S, eCall_S, isiO_S, sNil_S, sCons_S, sExpr_S, sRet_S, sRetO_S, sRetV_S, sRetN_S, sIf_S, sBrk_S, sCnt_S, sSet_S, sSetO_S, sFz_S, iL_S, iT_S, iS_S, iR1_S, iR2_S, iR3_S, sFor_S, oLc_S, tYesD_S, onO_S, sApp_S, sExt_S, sSetI_S, eFn_S, oFn_S, eM1_S, oSplit_S, eSlA_S, oListF_S, eTupF_S, eIndex_S, iA_S, sThenFz_S, sUnp_S, eFld_S, eFldD_S, sFldD_S, sFldO_S, sFldK_S, sFldApp_S, eFldPop_S, sFldSetI_S, sFldRot_S, eMt_S, oMt_S, eMk_S, sRaise_S, sTry_S, sTryAs_S, eIsE_S, eFnX_S, iFld_S, kNil_S, eNewL_S, eNewK_S, eRd_S, eGet1_S, eGet2_S, sRPut_S, eRPop_S, sRApp_S, eRPopL_S, sRSetI_S, eK_S, sForR_S, pNil_S, pCons_S, kDisp_S, sPar2_S, sPar3_S, sRem_S, sClr_S, iRv_S, eMaxD_S, oSortP_S, eUp_S, sRClr_S, sRRem_S, iKy_S, eIxF_S, tEqE_S, kCpy_S, oKeysF_S, kCpyK_S, eEqKK_S, oValsK_S, eIxK_S, eNeKK_S, tEqKK_S, tNeKK_S, kPairs_S, eLenS_S, iRdL_S, tNeX_S, eEqX_S, oSortT_S, oRep_S, lk0, ll0, lk1, ll1, lk2, ll2, lk3, ll3, lk4, ll4, lk5, ll5, lk6, ll6, lk7, ll7, lk8, ll8, lk9, ll9, lk10, ll10, lk11, ll11, lk12, ll12, lk13, ll13, lk14, ll14, lk15, ll15, lk16, ll16, lk17, ll17, lk18, ll18, lk19, ll19, lk20, ll20, lk21, ll21, lk22, ll22, lk23, ll23, lk24, ll24, Int.cast_ofNat_Int, Int.ofNat_zero, Int.ofNat_one, lenO_lst, lenO_tupl, lenO_dctl, ixD_l0, ixD_l1, ixD_l2, ixD_l3, ixD_l4, ixD_t0, ixD_t1, ixD_t2, ixD_t3, ixD_t4, ixD_t5, ixD_t6, rawV_obj, rawV_non, rawV_bl, rawV_int, rawV_str, rawV_lst, rawV_tup, rawV_dct, rawV_scr, onL_obj, onK_obj, onF_obj, raw_L, raw_K, raw_F, raw_mk, keyD_str, keyD_int, keyD_non, inD_dct_str, inD_dct_int, inD_dct_non, ninD_dct_str, ninD_dct_non, dgetD_str, dgetD_int, getN_str, getN_int, getN_non, look_S, ofString_inj, String.reduceEq, String.reduceNe, eq_self, List.lookup_nil, isSome_some', Option.getD_some, Option.getD_none, Option.isNone_none, Option.isSome_none, Option.isSome_some, set_set, bName, bTup, bNil, bCons, wipeE, obl, truD, resd_f, resd_o, fzE, addD, subD, mulD, divD, modD, ltD, leD, gtD, geD, isN_1, isN_2, isN_3, isN_4, isN_5, isN_6, isN_7, isN_8, isD_bl, isnD_bl, isD_non, isnD_non, tyN, eqD_str, eqD_int, eqD_bl, neD_str, neD_int, neD_bl, ordO_one, tx_eq_nil, inD_sign, ninD_sign, intO, maxO, minO, List.length_cons, List.length_nil, List.length_map, List.length_append, List.replicate, List.cons_append, List.nil_append, List.append_nil, List.getElem?_cons_zero, List.getElem?_cons_succ, List.set_cons_zero, List.set_cons_succ, Option.map_some, Option.map_none, Option.bind_some, Option.bind_none, if_true, if_false, ite_true, ite_false, ite_self, Nat.sub_self, Nat.zero_add, Nat.reduceAdd, Nat.reduceSub, Nat.reduceLeDiff, Int.reduceEq, Int.reduceNe, Nat.reduceEqDiff, Int.reduceToNat, Int.reduceLT, Int.reduceLE, Int.reduceMod, Int.reduceDiv, Int.reduceMul, Int.reduceAdd, Int.reduceSub, Int.reduceNeg, Nat.reduceLT, reduceIte, Bool.not_true, Bool.not_false, reduceCtorEq, decide_eq_true_eq, decide_eq_false_iff_not, Bool.not_eq_true', Bool.false_eq_true, Bool.true_eq_false, decide_true, decide_false, Bool.and_true, Bool.true_and, Bool.and_false, Bool.false_and, Bool.or_false, Bool.or_true, Bool.true_or, Bool.false_or, true_and, and_true, true_or, or_true, false_or, or_false, false_and, and_false, not_true_eq_false, not_false_eq_true, ne_eq])
local macro_rules | `(tactic| walk_at "ev*") => `(tactic| simp only [bind_S, liftS_S, bindR_ok, bindR_exc, bindR_bad, liftR_ok, liftR_exc, liftR_bad, ret_S, bad_S, raise_S, lift_some_S, lift_none_S, quiet_S, quietR_ok, quietR_exc, quietR_bad, ite_S, fnD_S, objF_S, fldO_S, setB_S, mkO_S, noEx_S, dropS_S, fnX_S, anyA_const, fvD, fvE, putW, initE, evs_nil, evs_cons, eO_S, eVar_S, eC_S, eVarB_S, aNil_S, aCons_S, eTup_S, eLst_S, eBin_S, tBin_S, oCat_S, tAndD_S, tOrD_S, tNotD_S, eAndD_S, eOrD_S, eNotD_S, eNegD_S, tValD_S, eIfD_S, oPart_S, oSl_S, eSl_S, eCall_S, isiO_S, sNil_S, sCons_S, sExpr_S, sRet_S, sRetO_S, sRetV_S, sRetN_S, sIf_S, sBrk_S, sCnt_S, sSet_S, sSetO_S, sFz_S, iL_S, iT_S, iS_S, iR1_S, iR2_S, iR3_S, sFor_S, oLc_S, tYesD_S, onO_S, sApp_S, sExt_S, sSetI_S, eFn_S, oFn_S, eM1_S, oSplit_S, eSlA_S, oListF_S, eTupF_S, eIndex_S, iA_S, sThenFz_S, sUnp_S, eFld_S, eFldD_S, sFldD_S, sFldO_S, sFldK_S, sFldApp_S, eFldPop_S, sFldSetI_S, sFldRot_S, eMt_S, oMt_S, eMk_S, sRaise_S, sTry_S, sTryAs_S, eIsE_S, eFnX_S, iFld_S, kNil_S, eNewL_S, eNewK_S, eRd_S, eGet1_S, eGet2_S, sRPut_S, eRPop_S, sRApp_S, eRPopL_S, sRSetI_S, eK_S, sForR_S, pNil_S, pCons_S, kDisp_S, sPar2_S, sPar3_S, sRem_S, sClr_S, iRv_S, eMaxD_S, oSortP_S, eUp_S, sRClr_S, sRRem_S, iKy_S, eIxF_S, tEqE_S, kCpy_S, oKeysF_S, kCpyK_S, eEqKK_S, oValsK_S, eIxK_S, eNeKK_S, tEqKK_S, tNeKK_S, kPairs_S, eLenS_S, iRdL_S, tNeX_S, eEqX_S, oSortT_S, oRep_S, lk0, ll0, lk1, ll1, lk2, ll2, lk3, ll3, lk4, ll4, lk5, ll5, lk6, ll6, lk7, ll7, lk8, ll8, lk9, ll9, lk10, ll10, lk11, ll11, lk12, ll12, lk13, ll13, lk14, ll14, lk15, ll15, lk16, ll16, lk17, ll17, lk18, ll18, lk19, ll19, lk20, ll20, lk21, ll21, lk22, ll22, lk23, ll23, lk24, ll24, Int.cast_ofNat_Int, Int.ofNat_zero, Int.ofNat_one, lenO_lst, lenO_tupl, lenO_dctl, ixD_l0, ixD_l1, ixD_l2, ixD_l3, ixD_l4, ixD_t0, ixD_t1, ixD_t2, ixD_t3, ixD_t4, ixD_t5, ixD_t6, rawV_obj, rawV_non, rawV_bl, rawV_int, rawV_str, rawV_lst, rawV_tup, rawV_dct, rawV_scr, onL_obj, onK_obj, onF_obj, raw_L, raw_K, raw_F, raw_mk, keyD_str, keyD_int, keyD_non, inD_dct_str, inD_dct_int, inD_dct_non, ninD_dct_str, ninD_dct_non, dgetD_str, dgetD_int, getN_str, getN_int, getN_non, look_S, ofString_inj, String.reduceEq, String.reduceNe, eq_self, List.lookup_nil, isSome_some', Option.getD_some, Option.getD_none, Option.isNone_none, Option.isSome_none, Option.isSome_some, set_set, bName, bTup, bNil, bCons, wipeE, obl, truD, resd_f, resd_o, fzE, addD, subD, mulD, divD, modD, ltD, leD, gtD, geD, isN_1, isN_2, isN_3, isN_4, isN_5, isN_6, isN_7, isN_8, isD_bl, isnD_bl, isD_non, isnD_non, tyN, eqD_str, eqD_int, eqD_bl, neD_str, neD_int, neD_bl, ordO_one, tx_eq_nil, inD_sign, ninD_sign, intO, maxO, minO, List.length_cons, List.length_nil, List.length_map, List.length_append, List.replicate, List.cons_append, List.nil_append, List.append_nil, List.getElem?_cons_zero, List.getElem?_cons_succ, List.set_cons_zero, List.set_cons_succ, Option.map_some, Option.map_none, Option.bind_some, Option.bind_none, if_true, if_false, ite_true, ite_false, ite_self, Nat.sub_self, Nat.zero_add, Nat.reduceAdd, Nat.reduceSub, Nat.reduceLeDiff, Int.reduceEq, Int.reduceNe, Nat.reduceEqDiff, Int.reduceToNat, Int.reduceLT, Int.reduceLE, Int.reduceMod, Int.reduceDiv, Int.reduceMul, Int.reduceAdd, Int.reduceSub, Int.reduceNeg, Nat.reduceLT, reduceIte, Bool.not_true, Bool.not_false, reduceCtorEq, decide_eq_true_eq, decide_eq_false_iff_not, Bool.not_eq_true', Bool.false_eq_true, Bool.true_eq_false, decide_true, decide_false, Bool.and_true, Bool.true_and, Bool.and_false, Bool.false_and, Bool.or_false, Bool.or_true, Bool.true_or, Bool.false_or, true_and, and_true, true_or, or_true, false_or, or_false, false_and, and_false, not_true_eq_false, not_false_eq_true, ne_eq, *])
local macro_rules | `(tactic| walk_at "evl") => `(tactic| simp only [bind_S, liftS_S, bindR_ok, bindR_exc, bindR_bad, liftR_ok, liftR_exc, liftR_bad, ret_S, bad_S, raise_S, lift_some_S, lift_none_S, quiet_S, quietR_ok, quietR_exc, quietR_bad, ite_S, fnD_S, objF_S, fldO_S, setB_S, mkO_S, noEx_S, dropS_S, fnX_S, anyA_const, fvD, fvE, putW, initE, evs_nil, evs_cons, eO_S, eVar_S, eC_S, eVarB_S, aNil_S, aCons_S, eTup_S, eLst_S, eBin_S, tBin_S, oCat_S, tAndD_S, tOrD_S, tNotD_S, eAndD_S, eOrD_S, eNotD_S, eNegD_S, tValD_S, eIfD_S, oPart_S, oSl_S, eSl_S, eCall_S, isiO_S, sNil_S, sCons_S, sExpr_S, sRet_S, sRetO_S, sRetV_S, sRetN_S, sIf_S, sBrk_S, sCnt_S, sSet_S, sSetO_S, sFz_S, iL_S, iT_S, iS_S, iR1_S, iR2_S, iR3_S, sFor_S, oLc_S, tYesD_S, onO_S, sApp_S, sExt_S, sSetI_S, eFn_S, oFn_S, eM1_S, oSplit_S, eSlA_S, oListF_S, eTupF_S, eIndex_S, iA_S, sThenFz_S, sUnp_S, eFld_S, eFldD_S, sFldD_S, sFldO_S, sFldK_S, sFldApp_S, eFldPop_S, sFldSetI_S, sFldRot_S, eMt_S, oMt_S, eMk_S, sRaise_S, sTry_S, sTryAs_S, eIsE_S, eFnX_S, iFld_S, kNil_S, eNewL_S, eNewK_S, eRd_S, eGet1_S, eGet2_S, sRPut_S, eRPop_S, sRApp_S, eRPopL_S, sRSetI_S, eK_S, sForR_S, pNil_S, pCons_S, kDisp_S, sPar2_S, sPar3_S, sRem_S, sClr_S, iRv_S, eMaxD_S, oSortP_S, eUp_S, sRClr_S, sRRem_S, iKy_S, eIxF_S, tEqE_S, kCpy_S, oKeysF_S, kCpyK_S, eEqKK_S, oValsK_S, eIxK_S, eNeKK_S, tEqKK_S, tNeKK_S, kPairs_S, eLenS_S, iRdL_S, tNeX_S, eEqX_S, oSortT_S, oRep_S, lk0, ll0, lk1, ll1, lk2, ll2, lk3, ll3, lk4, ll4, lk5, ll5, lk6, ll6, lk7, ll7, lk8, ll8, lk9, ll9, lk10, ll10, lk11, ll11, lk12, ll12, lk13, ll13, lk14, ll14, lk15, ll15, lk16, ll16, lk17, ll17, lk18, ll18, lk19, ll19, lk20, ll20, lk21, ll21, lk22, ll22, lk23, ll23, lk24, ll24, Int.cast_ofNat_Int, Int.ofNat_zero, Int.ofNat_one, lenO_lst, lenO_tupl, lenO_dctl, ixD_l0, ixD_l1, ixD_l2, ixD_l3, ixD_l4, ixD_t0, ixD_t1, ixD_t2, ixD_t3, ixD_t4, ixD_t5, ixD_t6, rawV_obj, rawV_non, rawV_bl, rawV_int, rawV_str, rawV_lst, rawV_tup, rawV_dct, rawV_scr, onL_obj, onK_obj, onF_obj, raw_L, raw_K, raw_F, raw_mk, keyD_str, keyD_int, keyD_non, inD_dct_str, inD_dct_int, inD_dct_non, ninD_dct_str, ninD_dct_non, dgetD_str, dgetD_int, getN_str, getN_int, getN_non, look_S, ofString_inj, String.reduceEq, String.reduceNe, eq_self, List.lookup_nil, isSome_some', Option.getD_some, Option.getD_none, Option.isNone_none, Option.isSome_none, Option.isSome_some, set_set, bName, bTup, bNil, bCons, wipeE, obl, truD, resd_f, resd_o, fzE, addD, subD, mulD, divD, modD, ltD, leD, gtD, geD, isN_1, isN_2, isN_3, isN_4, isN_5, isN_6, isN_7, isN_8, isD_bl, isnD_bl, isD_non, isnD_non, tyN, eqD_str, eqD_int, eqD_bl, neD_str, neD_int, neD_bl, ordO_one, tx_eq_nil, inD_sign, ninD_sign, intO, maxO, minO, List.length_cons, List.length_nil, List.length_map, List.length_append, List.replicate, List.cons_append, List.nil_append, List.append_nil, List.getElem?_cons_zero, List.getElem?_cons_succ, List.set_cons_zero, List.set_cons_succ, Option.map_some, Option.map_none, Option.bind_some, Option.bind_none, if_true, if_false, ite_true, ite_false, ite_self, Nat.sub_self, Nat.zero_add, Nat.reduceAdd, Nat.reduceSub, Nat.reduceLeDiff, Int.reduceEq, Int.reduceNe, Nat.reduceEqDiff, Int.reduceToNat, Int.reduceLT, Int.reduceLE, Int.reduceMod, Int.reduceDiv, Int.reduceMul, Int.reduceAdd, Int.reduceSub, Int.reduceNeg, Nat.reduceLT, reduceIte, Bool.not_true, Bool.not_false, reduceCtorEq, decide_eq_true_eq, decide_eq_false_iff_not, Bool.not_eq_true', Bool.false_eq_true, Bool.true_eq_false, decide_true, decide_false, Bool.and_true, Bool.true_and, Bool.and_false, Bool.false_and, Bool.or_false, Bool.or_true, Bool.true_or, Bool.false_or, true_and, and_true, true_or, or_true, false_or, or_false, false_and, and_false, not_true_eq_false, not_false_eq_true, ne_eq, forD_cons_S, forD_nil_S, lcD_cons_S, lcD_nil_S, *])

/-! ### drawn texts, cells -/
theorem foldl_one (c : Nat) : ∀ (m : Nat) (acc : Array Nat), (List.replicate m #[c]).foldl (· ++ ·) acc = acc ++ (List.replicate m c).toArray
  | 0, acc => by simp
  | m + 1, acc => by
    rw [List.replicate_succ, List.foldl_cons, foldl_one c m, List.replicate_succ]
    apply Array.ext'
    simp
theorem mul_one (c : Nat) (n : Int) : Txt.mul ⟨#[c]⟩ n = tx (List.replicate n.toNat c) := by
  unfold Txt.mul
  by_cases h : n < 1
  · rw [if_pos h, show n.toNat = 0 by omega]
    rfl
  · rw [if_neg h]
    split
    · rename_i h2
      have : n = 1 := by
        rw [Bool.or_eq_true] at h2
        rcases h2 with h2 | h2
        · simpa using h2
        · simp [Str.length] at h2
      subst this
      rfl
    · show (⟨_⟩ : Str) = _
      rw [foldl_one]
      simp
def cellAt (ns : List Int) (k : Nat) : Int := ns.getD k 0
theorem cell_ok (ns : List Int) (k : Nat) (hl : ns.length ≤ 63) (S : Store) : fn_law_cell_at [.scr ns, .int k] S = .ok (.f (.int (cellAt ns k))) S := by
  unfold fn_law_cell_at dn_law_cell_at
  have e1 : lenO [.scr ns] = some (.int ns.length) := rfl
  walk_at "ev*"
  unfold cellAt
  by_cases h : (k : Int) < ns.length
  · have e2 : ixD (.scr ns) (.int (k : Int)) = some (.int ns[k]) := ix_scr (by omega) (by simp)
    rw [List.getD_eq_getElem?_getD, List.getElem?_eq_getElem (by omega)]
    walk_at "ev*"
  · rw [List.getD_eq_getElem?_getD, List.getElem?_eq_none (by omega)]
    walk_at "ev*"
theorem map_ex {α : Type} {f : α → D} {P : α → Prop} : ∀ {ds : List D}, (∀ d ∈ ds, ∃ s, d = f s ∧ P s) → ∃ ss : List α, ds = ss.map f ∧ ∀ s ∈ ss, P s
  | [], _ => ⟨[], rfl, fun _ h => by cases h⟩
  | d :: ds, h => by
    obtain ⟨s, h1, h2⟩ := h d List.mem_cons_self
    obtain ⟨ss, h3, h4⟩ := map_ex fun e he => h e (List.mem_cons_of_mem _ he)
    refine ⟨s :: ss, by rw [h1, h3]; rfl, fun x hx => ?_⟩
    rcases List.mem_cons.mp hx with rfl | hx
    · exact h2
    · exact h4 x hx
theorem names_at {names : List Str} {count : Nat} (hn : names.length = count) (hc : 0 < count) (c : Int) : ∃ x ∈ names, ixD (.lst (names.map .str)) (.int (c % (count : Int))) = some (.str x) := by
  have h0 : 0 ≤ c % (count : Int) := Int.emod_nonneg _ (by omega)
  have h1 : c % (count : Int) < count := Int.emod_lt_of_pos _ (by omega)
  obtain ⟨j, hj⟩ : ∃ j : Nat, c % (count : Int) = j := ⟨(c % (count : Int)).toNat, by omega⟩
  rw [hj] at h1 ⊢
  have hj2 : j < names.length := by omega
  exact ⟨names[j], List.getElem_mem hj2, ix_map (List.getElem?_eq_getElem hj2)⟩

/-! ### names and words (own proofs over the printed denotations) -/
def letB (c : Nat) : Bool := decide (97 ≤ (c : Int)) && decide ((c : Int) ≤ 122)
def figB (c : Nat) : Bool := decide (48 ≤ (c : Int)) && decide ((c : Int) ≤ 57)
theorem is_letter_ok (c : Nat) (S : Store) : fn_is_letter [.str ⟨#[c]⟩] S = .ok (.f (.bl (letB c))) S := by
  unfold fn_is_letter dn_is_letter letB
  walk_at "ev"
  by_cases h : (97 : Int) ≤ c <;> walk_at "ev*"
theorem is_figure_ok (c : Nat) (S : Store) : fn_is_figure [.str ⟨#[c]⟩] S = .ok (.f (.bl (figB c))) S := by
  unfold fn_is_figure dn_is_figure figB
  walk_at "ev"
  by_cases h : (48 : Int) ≤ c <;> walk_at "ev*"
def nameB (l : List Nat) : Bool := match l with
  | [] => false
  | c :: _ => decide (l.length ≤ 8) && letB c && l.all fun c => letB c || figB c
def wdB (c : Nat) : Bool := decide (33 ≤ (c : Int)) && (decide ((c : Int) ≤ 126) && !decide ((c : Int) = 37))
def wordB (l : List Nat) : Bool := decide (1 ≤ l.length) && decide (l.length ≤ 12) && l.all wdB
theorem is_name_ok (l : List Nat) (hl : l.length ≤ lim) (S : Store) : fn_is_name [.str (tx l)] S = .ok (.f (.bl (nameB l))) S := by
  unfold fn_is_name dn_is_name
  walk_at "ev"
  cases l with
  | nil => rfl
  | cons c r =>
    have e1 := lenO_tx _ hl
    have e2 : ixD (.str (tx (c :: r))) (.int 0) = some (.str ⟨#[c]⟩) := ix_sign (l := c :: r) (i := 0) rfl hl
    have e3 := is_letter_ok c
    have hlen : (c :: r).length = r.length + 1 := rfl
    walk_at "ev*"
    by_cases h8 : (8 : Int) < ((r.length + 1 : Nat) : Int)
    · have e : nameB (c :: r) = false := by
        unfold nameB
        rw [decide_eq_false (by omega)]
        rfl
      walk_at "ev*"
    · cases hc : letB c with
      | false =>
        have e : nameB (c :: r) = false := by
          show (decide ((c :: r).length ≤ 8) && letB c && _) = false
          rw [hc]
          simp
        walk_at "ev*"
      | true =>
        have e : nameB (c :: r) = (c :: r).all fun c => letB c || figB c := by
          show (decide ((c :: r).length ≤ 8) && letB c && _) = _
          rw [hc, decide_eq_true (by omega)]
          simp
        walk_at "ev*"
        rw [show signsD (tx (c :: r)) = (c :: r).map sgn from rfl, lcD_all (c :: r) sgn (fun c => D.bl (letB c || figB c)) hl (fun x _ => ⟨_, rfl, by
          have e4 := is_letter_ok x
          have e5 := is_figure_ok x
          simp only [sgn]
          walk_at "ev*"
          cases letB x <;> walk_at "ev*"⟩)]
        walk_at "ev"
        rw [allO_map]
        walk_at "ev"
theorem is_word_ok (l : List Nat) (hl : l.length ≤ lim) (S : Store) : fn_is_word [.str (tx l)] S = .ok (.f (.bl (wordB l))) S := by
  unfold fn_is_word dn_is_word
  walk_at "ev"
  cases l with
  | nil => rfl
  | cons c r =>
    have e1 := lenO_tx _ hl
    have hlen : (c :: r).length = r.length + 1 := rfl
    walk_at "ev*"
    by_cases h8 : (12 : Int) < ((r.length + 1 : Nat) : Int)
    · have e : wordB (c :: r) = false := by
        unfold wordB
        rw [decide_eq_false (show ¬ (c :: r).length ≤ 12 by omega)]
        simp
      walk_at "ev*"
    · have e : wordB (c :: r) = (c :: r).all wdB := by
        unfold wordB
        rw [decide_eq_true (show 1 ≤ (c :: r).length by omega), decide_eq_true (show (c :: r).length ≤ 12 by omega)]
        rfl
      walk_at "ev*"
      rw [show signsD (tx (c :: r)) = (c :: r).map sgn from rfl, lcD_all (c :: r) sgn (fun c => D.bl (wdB c)) hl (fun x _ => ⟨_, rfl, by
          simp only [sgn]
          walk_at "ev"
          unfold wdB
          by_cases h1 : (33 : Int) ≤ x <;> by_cases h2 : (x : Int) ≤ 126 <;> walk_at "ev*"⟩)]
      walk_at "ev"
      rw [allO_map]
      walk_at "ev"

/-! ### steps: parts, words -/
def goodB (c : Nat) : Bool := decide (c = 9) || decide (c = 10) || decide (c = 32) || wdB c
/-- a part: an int, or a short text of common signs -/
def Part (d : D) : Prop := (∃ i, d = .int i) ∨ ∃ l : List Nat, d = .str (tx l) ∧ l.length ≤ 64 ∧ l.all goodB = true
theorem good_lt {l : List Nat} (h : l.all goodB = true) : PyData.strOk (tx l) = true := by
  show (l.toArray).all _ = true
  rw [List.all_toArray, List.all_eq_true]
  intro c hc
  have := List.all_eq_true.mp h c hc
  unfold goodB wdB at this
  simp at this ⊢
  omega
theorem Part.pl {d : D} (h : Part d) : pl 0 d = true := by
  rcases h with ⟨i, rfl⟩ | ⟨l, rfl, -, h⟩
  · rfl
  · exact good_lt h
def isW : D → Str → Bool
  | .str a, s => decide (a = s)
  | _, _ => false
theorem eqD_w {d : D} (h : Part d) (s : Str) : eqD d (.str s) = some (isW d s) := by
  rcases h with ⟨i, rfl⟩ | ⟨l, rfl, -, -⟩
  · rfl
  · rw [eqD_str]; rfl
def numB : D → Int → Bool
  | .int i, k => decide (k ≤ i) && decide (i ≤ 1000)
  | _, _ => false
def namB : D → Bool
  | .str s => nameB s.cps.toList
  | _ => false
def wrdB : D → Bool
  | .str s => wordB s.cps.toList
  | _ => false
theorem is_number_ok {d : D} (h : Part d) (k : Int) (S : Store) : fn_is_number [d, .int k] S = .ok (.f (.bl (numB d k))) S := by
  have k1 : kitB "int" "int" = some true := by decide
  have k2 : kitB "str" "int" = some false := by decide
  unfold fn_is_number dn_is_number
  rcases h with ⟨i, rfl⟩ | ⟨l, rfl, -, -⟩
  · unfold numB
    by_cases c : k ≤ i <;> walk_at "ev*"
  · unfold numB
    walk_at "ev*"
theorem is_named_ok {d : D} (h : Part d) (S : Store) : fn_is_named [d] S = .ok (.f (.bl (namB d))) S := by
  have k1 : kitB "int" "str" = some false := by decide
  have k2 : kitB "str" "str" = some true := by decide
  unfold fn_is_named dn_is_named
  rcases h with ⟨i, rfl⟩ | ⟨l, rfl, hl, -⟩
  · unfold namB
    walk_at "ev*"
  · have e := is_name_ok l (Nat.le_trans hl (by decide))
    unfold namB
    walk_at "ev*"
def pairB (w a : D) : Bool := if isW w "work" = true ∨ isW w "sleep" = true then numB a 1 else if isW w "receive" = true then numB a 0 else if isW w "take" = true ∨ isW w "give" = true ∨ isW w "ring" = true then namB a else false
def tripB (w a b : D) : Bool := if isW w "wait" = true then namB a && numB b 0 else if isW w "send" = true then namB a && wrdB b else false
def stepB : List D → Bool
  | [w] => isW w "again"
  | [w, a] => pairB w a
  | [w, a, b] => tripB w a b
  | _ => false
theorem it0 (w : D) (r : List D) : ixD (.tup (w :: r)) (.int 0) = some w := ix_tup (xs := w :: r) (i := 0) (by decide) rfl
theorem it1 (w a : D) (r : List D) : ixD (.tup (w :: a :: r)) (.int 1) = some a := ix_tup (xs := w :: a :: r) (i := 1) (by decide) rfl
theorem it2 (w a b : D) (r : List D) : ixD (.tup (w :: a :: b :: r)) (.int 2) = some b := ix_tup (xs := w :: a :: b :: r) (i := 2) (by decide) rfl
theorem is_pair_ok {w a : D} (hw : Part w) (ha : Part a) (S : Store) : fn_is_pair [.tup [w, a]] S = .ok (.f (.bl (pairB w a))) S := by
  have e0 := it0 w [a]
  have e1 := it1 w a []
  have q := eqD_w hw
  have n1 := is_number_ok ha 1
  have n0 := is_number_ok ha 0
  have nm := is_named_ok ha
  unfold fn_is_pair dn_is_pair pairB
  cases c1 : isW w "work" with
  | true => walk_at "ev*"
  | false =>
    cases c2 : isW w "sleep" with
    | true => walk_at "ev*"
    | false =>
      cases c3 : isW w "receive" with
      | true => walk_at "ev*"
      | false =>
        cases c4 : isW w "take" with
        | true => walk_at "ev*"
        | false =>
          cases c5 : isW w "give" with
          | true => walk_at "ev*"
          | false =>
            cases c6 : isW w "ring" with
            | true => walk_at "ev*"
            | false => walk_at "ev*"
theorem is_triple_ok {w a b : D} (hw : Part w) (ha : Part a) (hb : Part b) (S : Store) : fn_is_triple [.tup [w, a, b]] S = .ok (.f (.bl (tripB w a b))) S := by
  have e0 := it0 w [a, b]
  have e1 := it1 w a [b]
  have e2 := it2 w a b []
  have q := eqD_w hw
  have n0 := is_number_ok hb 0
  have nm := is_named_ok ha
  have k1 : kitB "int" "str" = some false := by decide
  have k2 : kitB "str" "str" = some true := by decide
  unfold fn_is_triple dn_is_triple tripB
  cases c1 : isW w "wait" with
  | true => cases c : namB a <;> walk_at "ev*"
  | false =>
    cases c2 : isW w "send" with
    | true =>
      cases c : namB a with
      | false => walk_at "ev*"
      | true =>
        rcases hb with ⟨i, rfl⟩ | ⟨l, rfl, hl, -⟩
        · unfold wrdB; walk_at "ev*"
        · have e := is_word_ok l (Nat.le_trans hl (by decide))
          unfold wrdB; walk_at "ev*"
    | false => walk_at "ev*"
theorem is_step_ok {ds : List D} (h : ∀ d ∈ ds, Part d) (S : Store) : fn_is_step [.tup ds] S = .ok (.f (.bl (stepB ds))) S := by
  unfold fn_is_step dn_is_step stepB
  match ds, h with
  | [], h =>
    have e : lenO [.tup []] = some (.int 0) := rfl
    walk_at "ev*"
  | [w], h =>
    have e : lenO [.tup [w]] = some (.int 1) := rfl
    have e0 := it0 w []
    have q := eqD_w (h w (by simp))
    walk_at "ev*"
  | [w, a], h =>
    have e : lenO [.tup [w, a]] = some (.int 2) := rfl
    have e0 := is_pair_ok (h w (by simp)) (h a (by simp))
    have d1 : ((2 : Int) = 1) = False := eq_false (by decide)
    walk_at "ev*"
  | [w, a, b], h =>
    have e : lenO [.tup [w, a, b]] = some (.int 3) := rfl
    have e0 := is_triple_ok (h w (by simp)) (h a (by simp)) (h b (by simp))
    have d1 : ((3 : Int) = 1) = False := eq_false (by decide)
    have d2 : ((3 : Int) = 2) = False := eq_false (by decide)
    walk_at "ev*"
  | w :: a :: b :: c :: r, h =>
    have e : lenO [.tup (w :: a :: b :: c :: r)] = some (.int ((r.length + 4 : Nat) : Int)) := rfl
    have d1 : (((r.length + 4 : Nat) : Int) = 1) = False := eq_false (by omega)
    have d2 : (((r.length + 4 : Nat) : Int) = 2) = False := eq_false (by omega)
    have d3 : (((r.length + 4 : Nat) : Int) = 3) = False := eq_false (by omega)
    walk_at "ev*"

/-! ### k04: words of a line, plainly -/
theorem is_lets : (Str.ofString "abcdefghijklmnopqrstuvwxyz") = tx ((List.range 26).map (97 + ·)) := by decide
theorem is_figs : (Str.ofString "0123456789") = tx ((List.range 10).map (48 + ·)) := by decide
theorem is_letfigs : (Str.ofString "abcdefghijklmnopqrstuvwxyz0123456789") = tx ((List.range 26).map (97 + ·) ++ (List.range 10).map (48 + ·)) := by decide
theorem nin_let (c : Nat) : ninD (.str ⟨#[c]⟩) (.str (Str.ofString "abcdefghijklmnopqrstuvwxyz")) = some (!letB c) := by
  rw [is_lets, ninD_sign]
  congr 2
  unfold letB
  rw [Bool.eq_iff_iff]
  simp only [decide_eq_true_eq, Bool.and_eq_true, List.mem_map, List.mem_range]
  constructor
  · rintro ⟨k, h, rfl⟩; omega
  · intro h; exact ⟨c - 97, by omega, by omega⟩
theorem nin_fig (c : Nat) : ninD (.str ⟨#[c]⟩) (.str (Str.ofString "0123456789")) = some (!figB c) := by
  rw [is_figs, ninD_sign]
  congr 2
  unfold figB
  rw [Bool.eq_iff_iff]
  simp only [decide_eq_true_eq, Bool.and_eq_true, List.mem_map, List.mem_range]
  constructor
  · rintro ⟨k, h, rfl⟩; omega
  · intro h; exact ⟨c - 48, by omega, by omega⟩
theorem nin_letfig (c : Nat) : ninD (.str ⟨#[c]⟩) (.str (Str.ofString "abcdefghijklmnopqrstuvwxyz0123456789")) = some (!(letB c || figB c)) := by
  rw [is_letfigs, ninD_sign]
  congr 2
  unfold letB figB
  rw [Bool.eq_iff_iff]
  simp only [decide_eq_true_eq, Bool.and_eq_true, Bool.or_eq_true, List.mem_append, List.mem_map, List.mem_range]
  constructor
  · rintro (⟨k, h, rfl⟩ | ⟨k, h, rfl⟩) <;> omega
  · rintro (h | h)
    · exact .inl ⟨c - 97, by omega, by omega⟩
    · exact .inr ⟨c - 48, by omega, by omega⟩
theorem wrd_good {l : List Nat} (hg : l.all goodB = true) : l.all wdB = (!decide (32 ∈ l) && (!decide (10 ∈ l) && !decide (9 ∈ l))) := by
  rw [Bool.eq_iff_iff]
  simp only [List.all_eq_true, Bool.and_eq_true, Bool.not_eq_true', decide_eq_false_iff_not] at hg ⊢
  constructor
  · intro h
    refine ⟨fun m => ?_, fun m => ?_, fun m => ?_⟩ <;> (have := h _ m; simp [wdB] at this)
  · rintro ⟨h1, h2, h3⟩ c hc
    have g := hg c hc
    unfold goodB at g
    simp only [Bool.or_eq_true, decide_eq_true_eq] at g
    rcases g with ((g | g) | g) | g
    · subst g; exact absurd hc h3
    · subst g; exact absurd hc h2
    · subst g; exact absurd hc h1
    · exact g
/-! words -/
def wordsL (l : List Nat) : List (List Nat) := TL.spl [32] 0 [] l
theorem spl32 (acc : List Nat) (c : Nat) (r : List Nat) : TL.spl [32] 0 acc (c :: r) = if c = 32 then acc :: TL.spl [32] 0 [] r else TL.spl [32] 0 (acc ++ [c]) r := by
  rw [TL.spl]
  have e : TL.pre [32] (c :: r) = decide (c = 32) := by
    unfold TL.pre
    show ([c] == [32]) = _
    rw [Bool.eq_iff_iff]; simp
  rw [e]
  by_cases h : c = 32
  · rw [if_pos (decide_eq_true h), if_pos h]; rfl
  · rw [if_neg (by simpa using h), if_neg h]
theorem blank_tx : (Str.ofString " ") = tx [32] := by decide
theorem split_tx (l : List Nat) : Txt.split (tx l) (Str.ofString " ") = (wordsL l).map tx := by
  rw [blank_tx]
  exact SX.split_S (a := l) (b := [32]) (by simp) (by decide)
theorem spl_ne : ∀ (l acc : List Nat), TL.spl [32] 0 acc l ≠ []
  | [], acc => by simp [TL.spl]
  | c :: r, acc => by
    rw [spl32]
    split
    · simp
    · exact spl_ne r _
theorem spl_all {p : Nat → Bool} : ∀ (l acc : List Nat), acc.all p = true → l.all p = true → ∀ w ∈ TL.spl [32] 0 acc l, w.all p = true
  | [], acc, ha, _, w, hw => by
    rw [TL.spl] at hw
    rw [List.mem_singleton.mp hw]; exact ha
  | c :: r, acc, ha, hl, w, hw => by
    rw [List.all_cons, Bool.and_eq_true] at hl
    rw [spl32] at hw
    split at hw
    · rcases List.mem_cons.mp hw with rfl | hw
      · exact ha
      · exact spl_all r [] rfl hl.2 w hw
    · exact spl_all r _ (by rw [List.all_append, ha, List.all_cons, hl.1]; rfl) hl.2 w hw
theorem spl_no : ∀ (l acc : List Nat), 32 ∉ acc → ∀ w ∈ TL.spl [32] 0 acc l, 32 ∉ w
  | [], acc, ha, w, hw => by
    rw [TL.spl] at hw
    rw [List.mem_singleton.mp hw]; exact ha
  | c :: r, acc, ha, w, hw => by
    rw [spl32] at hw
    split at hw
    · rcases List.mem_cons.mp hw with rfl | hw
      · exact ha
      · exact spl_no r [] (by simp) w hw
    · rename_i hc
      exact spl_no r _ (by simp [ha]; omega) w hw
def sumL (ws : List (List Nat)) : Nat := (ws.map (·.length + 1)).sum
theorem sumL_cons (w : List Nat) (ws : List (List Nat)) : sumL (w :: ws) = w.length + 1 + sumL ws := by simp [sumL]
theorem sumL_app (a b : List (List Nat)) : sumL (a ++ b) = sumL a + sumL b := by simp [sumL]
theorem spl_sum : ∀ (l acc : List Nat), sumL (TL.spl [32] 0 acc l) = acc.length + l.length + 1
  | [], acc => by rw [TL.spl]; simp [sumL]
  | c :: r, acc => by
    rw [spl32]
    split
    · rw [sumL_cons, spl_sum r []]; simp; omega
    · rw [spl_sum r]; simp; omega
theorem sumL_len : ∀ ws : List (List Nat), ws.length ≤ sumL ws
  | [] => by simp [sumL]
  | w :: ws => by rw [sumL_cons, List.length_cons]; have := sumL_len ws; omega
theorem sumL_mem {w : List Nat} : ∀ {ws : List (List Nat)}, w ∈ ws → w.length + 1 ≤ sumL ws
  | v :: ws, h => by
    rw [sumL_cons]
    rcases List.mem_cons.mp h with rfl | h
    · omega
    · have := sumL_mem h; omega
/-- a good word: common signs, no blank -/
structure GW (n : Nat) (w : List Nat) : Prop where
  g : w.all goodB = true
  b : 32 ∉ w
  l : w.length ≤ n
theorem words_good {l : List Nat} (hg : l.all goodB = true) {n : Nat} (hl : l.length ≤ n) : ∀ w ∈ wordsL l, GW n w := fun w hw => by
  refine ⟨spl_all l [] rfl hg w hw, spl_no l [] (by simp) w hw, ?_⟩
  have h1 := sumL_mem (ws := wordsL l) hw
  have h2 := spl_sum l []
  unfold wordsL at h1
  simp at h2
  omega
theorem join_tx (ws : List (List Nat)) : Txt.join (Str.ofString " ") (ws.map tx) = tx (TL.joinL [32] ws) := by
  rw [blank_tx]
  exact SX.join_S [32] ws
theorem joinL_good : ∀ ws : List (List Nat), (∀ w ∈ ws, w.all goodB = true) → (TL.joinL [32] ws).all goodB = true
  | [], _ => rfl
  | [p], h => h p List.mem_cons_self
  | p :: q :: r, h => by
    show (p ++ ([32] ++ TL.joinL [32] (q :: r))).all goodB = true
    rw [List.all_append, List.all_append, h p List.mem_cons_self, joinL_good (q :: r) fun w hw => h w (List.mem_cons_of_mem _ hw)]
    rfl
theorem joinL_len : ∀ ws : List (List Nat), (TL.joinL [32] ws).length ≤ sumL ws
  | [] => by simp [sumL, TL.joinL]
  | [p] => by simp [sumL, TL.joinL]
  | p :: q :: r => by
    show (p ++ ([32] ++ TL.joinL [32] (q :: r))).length ≤ _
    rw [sumL_cons, List.length_append, List.length_append]
    have := joinL_len (q :: r)
    show p.length + (1 + (TL.joinL [32] (q :: r)).length) ≤ _
    omega
theorem strsD_tx : ∀ ws : List (List Nat), strsD (ws.map fun w => D.str (tx w)) = some (ws.map tx)
  | [] => rfl
  | w :: ws => by
    rw [List.map_cons, strsD, strsD_tx ws]; rfl
theorem joinO_tx (ws : List (List Nat)) (h : sumL ws ≤ 1000) : joinO (Str.ofString " ") (.lst (ws.map fun w => .str (tx w))) = some (.str (tx (TL.joinL [32] ws))) := by
  show ((strsD (ws.map fun w => D.str (tx w))).bind fun zs => if (zs.map (·.length)).sum + zs.length * (Str.ofString " ").length ≤ lim then some (D.str (Txt.join (Str.ofString " ") zs)) else none) = _
  rw [strsD_tx, Option.bind_some, join_tx]
  rw [if_pos ?_]
  have e : ((ws.map tx).map (·.length)).sum ≤ sumL ws := by
    clear h
    induction ws with
    | nil => simp [sumL]
    | cons w ws ih => rw [sumL_cons, List.map_cons, List.map_cons, List.sum_cons, tx_len]; omega
  have e2 : (ws.map tx).length * (Str.ofString " ").length ≤ sumL ws := by
    rw [List.length_map, blank_tx, tx_len]
    have := sumL_len ws
    simpa using this
  unfold lim
  omega
/-- figures: a number -/
def numV (w : List Nat) : Option Int := if w ≠ [] ∧ w.length ≤ 4 ∧ ¬ (w.head? = some 48 ∧ 1 < w.length) ∧ w.all figB = true then some ((NumText.digitsVal w : Nat) : Int) else none
theorem numV_nn {w : List Nat} {v : Int} (h : numV w = some v) : 0 ≤ v := by
  unfold numV at h
  split at h
  · cases h; omega
  · cases h
theorem int_tx {w : List Nat} (h : w.all figB = true) (hne : w ≠ []) (hl : w.length ≤ 4) : intO [.str (tx w)] = some (.int ((NumText.digitsVal w : Nat) : Int)) := by
  show (if (tx w).length ≤ 640 then (PySem.intText? (tx w)).map D.int else none) = _
  rw [if_pos (by rw [tx_len]; omega)]
  have e := SX.int_S (a := w) (List.all_eq_true.mpr fun c hc => by
    have := List.all_eq_true.mp h c hc
    unfold figB at this
    rw [Bool.and_eq_true, decide_eq_true_eq, decide_eq_true_eq] at this
    rw [Bool.and_eq_true, decide_eq_true_eq, decide_eq_true_eq]; omega) hne (by omega)
  have e : PySem.intText? (tx w) = some ((NumText.digitsVal w : Nat) : Int) := e
  rw [e]; rfl

/-! ### k04: numbers and names read -/
theorem zero_tx : (Str.ofString "0") = tx [48] := by decide
theorem eq_zero (c : Nat) : eqD (.str ⟨#[c]⟩) (.str (Str.ofString "0")) = some (decide (c = 48)) := by
  rw [eqD_str, zero_tx]
  congr 1
  rw [Bool.eq_iff_iff, decide_eq_true_eq, decide_eq_true_eq]
  refine ⟨fun h => ?_, fun h => by rw [h]⟩
  have := tx_inj (a := [c]) (b := [48]) h
  exact (List.cons.inj this).1
theorem len1000 : lenO [.str (toString (1000 : Int))] = some (.int 4) := by
  have e : (Str.ofString (toString ((1000 : Nat) : Int))) = tx (TL.numL 1000) := SX.num_S 1000
  have e2 : TL.numL 1000 = [49, 48, 48, 48] := by decide +kernel
  show lenO [.str (Str.ofString (toString ((1000 : Nat) : Int)))] = _
  rw [e, e2]
  exact lenO_tx _ (by decide)
theorem fig_loop (v0 : EV) (S : Store) : ∀ (w : List Nat) (e1 : EV), ∃ e' : EV, (w.all figB = true → forD (sIf (tNotD (tValD (eFn (fn_is_figure) (aCons (eVar 1) (aNil))))) (sRaise "NoStep") (sNil)) (bName 1) (w.map sgn) [v0, e1] S = .ok (.nx [v0, e']) S) ∧ (w.all figB = false → forD (sIf (tNotD (tValD (eFn (fn_is_figure) (aCons (eVar 1) (aNil))))) (sRaise "NoStep") (sNil)) (bName 1) (w.map sgn) [v0, e1] S = .ok (.ex (Str.ofString "NoStep") [v0, e']) S)
  | [], e1 => ⟨e1, fun _ => rfl, fun h => by cases h⟩
  | c :: w, e1 => by
    have fo := is_figure_ok c S
    cases hc : figB c with
    | true =>
      obtain ⟨e', h1, h2⟩ := fig_loop v0 S w (.f (.str ⟨#[c]⟩))
      have st : (sIf (tNotD (tValD (eFn (fn_is_figure) (aCons (eVar 1) (aNil))))) (sRaise "NoStep") (sNil)) [v0, .f (.str ⟨#[c]⟩)] S = .ok (.nx [v0, .f (.str ⟨#[c]⟩)]) S := by
        rw [hc] at fo
        clear h1 h2
        walk_at "ev*"
      refine ⟨e', fun h => ?_, fun h => ?_⟩
      · rw [List.all_cons, hc, Bool.true_and] at h
        rw [List.map_cons, forD_nx (show bName 1 (sgn c) [v0, e1] = some [v0, .f (.str ⟨#[c]⟩)] from rfl) st]
        exact h1 h
      · rw [List.all_cons, hc, Bool.true_and] at h
        rw [List.map_cons, forD_nx (show bName 1 (sgn c) [v0, e1] = some [v0, .f (.str ⟨#[c]⟩)] from rfl) st]
        exact h2 h
    | false =>
      refine ⟨.f (.str ⟨#[c]⟩), fun h => ?_, fun _ => ?_⟩
      · rw [List.all_cons, hc] at h; cases h
      · have st : (sIf (tNotD (tValD (eFn (fn_is_figure) (aCons (eVar 1) (aNil))))) (sRaise "NoStep") (sNil)) [v0, .f (.str ⟨#[c]⟩)] S = .ok (.ex (Str.ofString "NoStep") [v0, .f (.str ⟨#[c]⟩)]) S := by
          rw [hc] at fo
          walk_at "ev*"
        rw [List.map_cons, forD_cons_S]
        have b1 : bName 1 (sgn c) [v0, e1] = some [v0, .f (.str ⟨#[c]⟩)] := rfl
        rw [b1]
        dsimp only
        unfold M.bind
        rw [st]; rfl
theorem numV_cons (c : Nat) (r : List Nat) : numV (c :: r) = if (c :: r).length ≤ 4 ∧ ¬ (c = 48 ∧ 1 < (c :: r).length) ∧ (c :: r).all figB = true then some ((NumText.digitsVal (c :: r) : Nat) : Int) else none := by
  unfold numV
  have e : ((c :: r) ≠ [] ∧ (c :: r).length ≤ 4 ∧ ¬ ((c :: r).head? = some 48 ∧ 1 < (c :: r).length) ∧ (c :: r).all figB = true) ↔ ((c :: r).length ≤ 4 ∧ ¬ (c = 48 ∧ 1 < (c :: r).length) ∧ (c :: r).all figB = true) := by simp
  by_cases h : (c :: r).length ≤ 4 ∧ ¬ (c = 48 ∧ 1 < (c :: r).length) ∧ (c :: r).all figB = true
  · rw [if_pos h, if_pos (e.mpr h)]
  · rw [if_neg h, if_neg fun z => h (e.mp z)]
theorem number_of_ok (w : List Nat) (hl : w.length ≤ 100) (S : Store) : fn_number_of [.str (tx w)] S = match numV w with
    | some v => .ok (.f (.int v)) S
    | none => .exc "NoStep" S := by
  unfold fn_number_of dn_number_of
  cases w with
  | nil => walk_at "ev"; rfl
  | cons c r =>
    have hlim : (c :: r).length ≤ lim := Nat.le_trans hl (by decide)
    have e1 := lenO_tx _ hlim
    have e2 : ixD (.str (tx (c :: r))) (.int 0) = some (.str ⟨#[c]⟩) := ix_sign (l := c :: r) (i := 0) rfl hlim
    have e3 := eq_zero c
    have e4 := len1000
    have e5 : strO [.int 1000] = some (.str (toString (1000 : Int))) := rfl
    have hlen : (c :: r).length = r.length + 1 := rfl
    have ne : ((tx (c :: r) : Str) = Str.ofString "") = False := by rw [tx_eq_nil]; simp
    rw [numV_cons]
    generalize toString (1000 : Int) = t1000 at *
    by_cases h4 : (4 : Int) < ((r.length + 1 : Nat) : Int)
    · rw [if_neg (by rw [hlen]; omega)]
      walk_at "ev*"
    · by_cases c48 : c = 48
      · by_cases l1 : (1 : Int) < ((r.length + 1 : Nat) : Int)
        · rw [if_neg (by rw [hlen]; omega)]
          rw [decide_eq_true c48] at e3
          have l1 := eq_true l1
          have h4 := eq_false h4
          clear c48
          walk_at "ev*"
        · have l1 := eq_false l1
          have h4' := eq_false h4
          rw [decide_eq_true c48] at e3
          obtain ⟨x, g1, g2⟩ := fig_loop (.f (.str (tx (c :: r)))) S (c :: r) .u
          cases q : (c :: r).all figB with
          | true =>
            have g1 := g1 q
            rw [← signs_sgn] at g1
            have iv := int_tx q (by simp) (by rw [hlen]; omega)
            rw [if_pos ⟨by rw [hlen]; omega, by rw [hlen]; omega, rfl⟩]
            clear g2 c48 q h4
            generalize intO = io at *
            generalize (sIf (tNotD (tValD (eFn (fn_is_figure) (aCons (eVar 1) (aNil))))) (sRaise "NoStep") (sNil)) = FB at *
            walk_at "ev*"
          | false =>
            have g2 := g2 q
            rw [← signs_sgn] at g2
            rw [if_neg (by simp)]
            clear g1 c48 q h4
            generalize (sIf (tNotD (tValD (eFn (fn_is_figure) (aCons (eVar 1) (aNil))))) (sRaise "NoStep") (sNil)) = FB at *
            walk_at "ev*"
      · have h4' := eq_false h4
        rw [decide_eq_false c48] at e3
        obtain ⟨x, g1, g2⟩ := fig_loop (.f (.str (tx (c :: r)))) S (c :: r) .u
        cases q : (c :: r).all figB with
        | true =>
          have g1 := g1 q
          rw [← signs_sgn] at g1
          have iv := int_tx q (by simp) (by rw [hlen]; omega)
          rw [if_pos ⟨by rw [hlen]; omega, fun z => c48 z.1, rfl⟩]
          clear g2 c48 q h4
          generalize intO = io at *
          generalize (sIf (tNotD (tValD (eFn (fn_is_figure) (aCons (eVar 1) (aNil))))) (sRaise "NoStep") (sNil)) = FB at *
          walk_at "ev*"
        | false =>
          have g2 := g2 q
          rw [← signs_sgn] at g2
          rw [if_neg (by simp)]
          clear g1 c48 q h4
          generalize (sIf (tNotD (tValD (eFn (fn_is_figure) (aCons (eVar 1) (aNil))))) (sRaise "NoStep") (sNil)) = FB at *
          walk_at "ev*"
def lawNum (w : List Nat) (low : Int) : Int := match numV w with
  | some v => if low ≤ v ∧ v ≤ 1000 then v else -1
  | none => -1
theorem lnumber_ok (w : List Nat) (hl : w.length ≤ 100) (low : Int) (S : Store) : fn_law_number [.str (tx w), .int low] S = .ok (.f (.int (lawNum w low))) S := by
  unfold fn_law_number dn_law_number lawNum
  cases w with
  | nil => walk_at "ev"; rfl
  | cons c r =>
    have hlim : (c :: r).length ≤ lim := Nat.le_trans hl (by decide)
    have e1 := lenO_tx _ hlim
    have e2 : ixD (.str (tx (c :: r))) (.int 0) = some (.str ⟨#[c]⟩) := ix_sign (l := c :: r) (i := 0) rfl hlim
    have e3 := eq_zero c
    have hlen : (c :: r).length = r.length + 1 := rfl
    have ne : ((tx (c :: r) : Str) = Str.ofString "") = False := by rw [tx_eq_nil]; simp
    have lc : lcD (bName 2) (tBin ninD (eVar 2) (eC (.str "0123456789"))) (eVar 2) [.f (.str (tx (c :: r))), .f (.int low), .u] (signsD (tx (c :: r))) [] S = .ok (((c :: r).filter fun c => !figB c).map sgn) S := by
      rw [signs_sgn]
      exact lcD_flt (c :: r) sgn (fun c => !figB c) sgn hlim fun x _ => ⟨[.f (.str (tx (c :: r))), .f (.int low), .f (sgn x)], rfl, by
        have := nin_fig x
        simp only [sgn]
        clear e1 e2 e3 ne
        generalize tx (c :: r) = T at *
        walk_at "ev*", fun _ => by
        generalize tx (c :: r) = T at *
        walk_at "ev"⟩
    have e5 : lenO [.lst (((c :: r).filter fun c => !figB c).map sgn)] = some (.int ((c :: r).filter fun c => !figB c).length) := by simp [lenO]
    have q0 : ((c :: r).filter fun c => !figB c).length = 0 ↔ (c :: r).all figB = true := by
      rw [List.length_eq_zero_iff, List.filter_eq_nil_iff, List.all_eq_true]
      exact ⟨fun h x hx => by have := h x hx; simpa using this, fun h x hx => by simp [h x hx]⟩
    generalize hF : ((c :: r).filter fun c => !figB c).length = nF at *
    generalize ((c :: r).filter fun c => !figB c).map sgn = FF at *
    rw [numV_cons]
    by_cases h4 : (4 : Int) < ((r.length + 1 : Nat) : Int)
    · rw [if_neg (by rw [hlen]; omega)]
      clear q0 hF
      walk_at "ev*"
    · have h4' := eq_false h4
      cases q : (c :: r).all figB with
      | false =>
        have n0 : ((0 : Int) < (nF : Int)) = True := eq_true (by
          have : nF ≠ 0 := fun z => by rw [q0.mp z] at q; cases q
          omega)
        rw [if_neg (by simp)]
        clear q0 hF q h4
        walk_at "ev*"
      | true =>
        have n0 : ((0 : Int) < (nF : Int)) = False := eq_false (by have := q0.mpr q; omega)
        have iv := int_tx q (by simp) (by rw [hlen]; omega)
        generalize ((NumText.digitsVal (c :: r) : Nat) : Int) = v at *
        generalize intO = io at *
        have low' : ∀ {b : Prop} [Decidable b] {z : Int}, (if b then z else z) = z := fun {b} _ {z} => by split <;> rfl
        by_cases cc : c = 48 ∧ 1 < r.length + 1
        · rw [if_neg (by rw [hlen]; exact fun z => z.2.1 cc)]
          rw [decide_eq_true cc.1] at e3
          have l1 : ((1 : Int) < ((r.length + 1 : Nat) : Int)) = True := eq_true (by omega)
          clear q0 hF q h4 cc
          walk_at "ev*"
        · rw [if_pos ⟨by rw [hlen]; omega, by rw [hlen]; exact cc, rfl⟩]
          dsimp only
          have go : (tAndD (tBin gtD (eCall lenO (aCons (eVar 0) (aNil))) (eC (.int 1))) (tBin eqD (eBin ixD (eVar 0) (eC (.int 0))) (eC (.str "0")))) [.f (.str (tx (c :: r))), .f (.int low), .u] S = .ok false S := by
            clear q0 hF q h4 iv lc e5 n0
            by_cases l1 : (1 : Int) < ((r.length + 1 : Nat) : Int)
            · rw [decide_eq_false (fun z => cc ⟨z, by omega⟩)] at e3
              have l1 := eq_true l1
              clear cc
              walk_at "ev*"
            · have l1 := eq_false l1
              clear cc
              walk_at "ev*"
          clear q0 hF q h4 cc
          generalize (tAndD (tBin gtD (eCall lenO (aCons (eVar 0) (aNil))) (eC (.int 1))) (tBin eqD (eBin ixD (eVar 0) (eC (.int 0))) (eC (.str "0")))) = TT at *
          by_cases b1 : v < low
          · rw [if_neg (by omega)]
            have b1 := eq_true b1
            walk_at "ev*"
          · by_cases b2 : (1000 : Int) < v
            · rw [if_neg (by omega)]
              have b1 := eq_false b1
              have b2 := eq_true b2
              walk_at "ev*"
            · rw [if_pos (by omega)]
              have b1 := eq_false b1
              have b2 := eq_false b2
              walk_at "ev*"
theorem letfig_app : (Str.ofString "abcdefghijklmnopqrstuvwxyz") ++ (Str.ofString "0123456789") = Str.ofString "abcdefghijklmnopqrstuvwxyz0123456789" := by
  rw [is_lets, is_figs, is_letfigs, tx_app]
theorem lname_ok (l : List Nat) (hl : l.length ≤ 100) (S : Store) : fn_law_name [.str (tx l)] S = .ok (.f (.bl (nameB l))) S := by
  unfold fn_law_name dn_law_name
  cases l with
  | nil => walk_at "ev"; rfl
  | cons c r =>
    have hlim : (c :: r).length ≤ lim := Nat.le_trans hl (by decide)
    have e1 := lenO_tx _ hlim
    have e2 : ixD (.str (tx (c :: r))) (.int 0) = some (.str ⟨#[c]⟩) := ix_sign (l := c :: r) (i := 0) rfl hlim
    have e3 := nin_let c
    have hlen : (c :: r).length = r.length + 1 := rfl
    have ne : ((tx (c :: r) : Str) = Str.ofString "") = False := by rw [tx_eq_nil]; simp
    have nb : nameB (c :: r) = (decide ((c :: r).length ≤ 8) && letB c && (c :: r).all fun c => letB c || figB c) := rfl
    have sm : addD (.str (Str.ofString "abcdefghijklmnopqrstuvwxyz")) (.str (Str.ofString "0123456789")) = some (.str (Str.ofString "abcdefghijklmnopqrstuvwxyz0123456789")) := by
      rw [← letfig_app]
      show (if (Str.ofString "abcdefghijklmnopqrstuvwxyz").length + (Str.ofString "0123456789").length ≤ lim then some (D.str (Str.ofString "abcdefghijklmnopqrstuvwxyz" ++ Str.ofString "0123456789")) else none) = _
      exact if_pos (by rw [is_lets, is_figs, tx_len, tx_len]; decide)
    rw [nb]
    by_cases h8 : (8 : Int) < ((r.length + 1 : Nat) : Int)
    · rw [decide_eq_false (show ¬ (c :: r).length ≤ 8 by omega)]
      walk_at "ev*"
    · rw [decide_eq_true (show (c :: r).length ≤ 8 by omega)]
      cases hc : letB c with
      | false => walk_at "ev*"
      | true =>
        have lc : lcD (bName 2) (tBin ninD (eVar 2) (eBin addD (eVar 1) (eC (.str "0123456789")))) (eVar 2) [.f (.str (tx (c :: r))), .f (.str "abcdefghijklmnopqrstuvwxyz"), .u] (signsD (tx (c :: r))) [] S = .ok (((c :: r).filter fun c => !(letB c || figB c)).map sgn) S := by
          rw [signs_sgn]
          exact lcD_flt (c :: r) sgn (fun c => !(letB c || figB c)) sgn hlim fun x _ => ⟨[.f (.str (tx (c :: r))), .f (.str "abcdefghijklmnopqrstuvwxyz"), .f (sgn x)], rfl, by
            have := nin_letfig x
            simp only [sgn]
            clear e1 e2 e3 ne
            generalize tx (c :: r) = T at *
            generalize addD = ad at *
            walk_at "ev*", fun _ => by
            generalize tx (c :: r) = T at *
            walk_at "ev"⟩
        have e5 : lenO [.lst (((c :: r).filter fun c => !(letB c || figB c)).map sgn)] = some (.int ((c :: r).filter fun c => !(letB c || figB c)).length) := by simp [lenO]
        have fin : eqD (.int ((c :: r).filter fun c => !(letB c || figB c)).length) (.int 0) = some ((c :: r).all fun c => letB c || figB c) := by
          rw [eqD_int]
          congr 1
          rw [Bool.eq_iff_iff, decide_eq_true_eq, List.all_eq_true]
          constructor
          · intro h0 x hx
            have h0 : ((c :: r).filter fun c => !(letB c || figB c)).length = 0 := by omega
            rw [List.length_eq_zero_iff, List.filter_eq_nil_iff] at h0
            have := h0 x hx
            cases q : (letB x || figB x) with
            | true => rfl
            | false => rw [q] at this; simp at this
          · intro h
            rw [List.filter_eq_nil_iff.mpr fun x hx => by rw [h x hx]; simp]; rfl
        have h8' := eq_false h8
        clear sm
        generalize ((c :: r).filter fun c => !(letB c || figB c)).length = nF at *
        generalize ((c :: r).filter fun c => !(letB c || figB c)).map sgn = FF at *
        generalize ((c :: r).all fun c => letB c || figB c) = AL at *
        generalize hT : (tBin ninD (eVar 2) (eBin addD (eVar 1) (eC (.str "0123456789")))) = TB at *
        rw [hc] at e3
        clear h8 nb hT
        cases AL <;> walk_at "ev*"

/-! ### k04: steps read -/
def rs1 : En → M Fl := sSet 1 (eO (oSplit (eVar 0) (eC (.str " "))))
def rs2 : En → M Fl := sSet 2 (eTupF (eVar 1))
def rs3 : En → M Fl := sIf (tAndD (tBin eqD (eCall lenO (aCons (eVar 1) (aNil))) (eC (.int 2))) (tBin inD (eBin ixD (eVar 1) (eC (.int 0))) (eTup (aCons (eC (.str "work")) (aCons (eC (.str "sleep")) (aCons (eC (.str "receive")) (aNil))))))) (sSet 2 (eTup (aCons (eBin ixD (eVar 1) (eC (.int 0))) (aCons (eFn (fn_number_of) (aCons (eBin ixD (eVar 1) (eC (.int 1))) (aNil))) (aNil))))) (sNil)
def rs4 : En → M Fl := sIf (tAndD (tBin eqD (eCall lenO (aCons (eVar 1) (aNil))) (eC (.int 3))) (tBin eqD (eBin ixD (eVar 1) (eC (.int 0))) (eC (.str "wait")))) (sSet 2 (eTup (aCons (eBin ixD (eVar 1) (eC (.int 0))) (aCons (eBin ixD (eVar 1) (eC (.int 1))) (aCons (eFn (fn_number_of) (aCons (eBin ixD (eVar 1) (eC (.int 2))) (aNil))) (aNil)))))) (sNil)
def rs5 : En → M Fl := sIf (tNotD (tValD (eFn (fn_is_step) (aCons (eVar 2) (aNil))))) (sRaise "NoStep") (sNil)
def rs6 : En → M Fl := sRet (eVar 2)
theorem rs_all : dn_read_step = sCons rs1 (sCons rs2 (sCons rs3 (sCons rs4 (sCons rs5 (rs6))))) := rfl
def du1 : En → M Fl := sSet 1 (eO (oSplit (eVar 0) (eC (.str " "))))
def du2 : En → M Fl := sIf (tBin eqD (eVar 1) (eO (eLst (aCons (eC (.str "again")) (aNil))))) (sRet (eTup (aCons (eC (.str "again")) (aNil)))) (sNil)
def du3 : En → M Fl := sIf (tAndD (tBin eqD (eCall lenO (aCons (eVar 1) (aNil))) (eC (.int 2))) (tBin inD (eBin ixD (eVar 1) (eC (.int 0))) (eTup (aCons (eC (.str "work")) (aCons (eC (.str "sleep")) (aCons (eC (.str "receive")) (aNil))))))) (sCons (sSet 2 (eFn (fn_law_number) (aCons (eBin ixD (eVar 1) (eC (.int 1))) (aCons (eCall intO (aCons (eBin (obl neD) (eBin ixD (eVar 1) (eC (.int 0))) (eC (.str "receive"))) (aNil))) (aNil))))) (sRet (eIfD (tBin geD (eVar 2) (eC (.int 0))) (eTup (aCons (eBin ixD (eVar 1) (eC (.int 0))) (aCons (eVar 2) (aNil)))) (eC .non)))) (sNil)
def du4 : En → M Fl := sIf (tAndD (tBin eqD (eCall lenO (aCons (eVar 1) (aNil))) (eC (.int 2))) (tAndD (tBin inD (eBin ixD (eVar 1) (eC (.int 0))) (eTup (aCons (eC (.str "take")) (aCons (eC (.str "give")) (aCons (eC (.str "ring")) (aNil)))))) (tValD (eFn (fn_law_name) (aCons (eBin ixD (eVar 1) (eC (.int 1))) (aNil)))))) (sRet (eTup (aCons (eBin ixD (eVar 1) (eC (.int 0))) (aCons (eBin ixD (eVar 1) (eC (.int 1))) (aNil))))) (sNil)
def du5 : En → M Fl := sIf (tAndD (tBin eqD (eCall lenO (aCons (eVar 1) (aNil))) (eC (.int 3))) (tAndD (tBin eqD (eBin ixD (eVar 1) (eC (.int 0))) (eC (.str "wait"))) (tAndD (tValD (eFn (fn_law_name) (aCons (eBin ixD (eVar 1) (eC (.int 1))) (aNil)))) (tBin geD (eFn (fn_law_number) (aCons (eBin ixD (eVar 1) (eC (.int 2))) (aCons (eC (.int 0)) (aNil)))) (eC (.int 0)))))) (sRet (eTup (aCons (eBin ixD (eVar 1) (eC (.int 0))) (aCons (eBin ixD (eVar 1) (eC (.int 1))) (aCons (eFn (fn_law_number) (aCons (eBin ixD (eVar 1) (eC (.int 2))) (aCons (eC (.int 0)) (aNil)))) (aNil)))))) (sNil)
def du6 : En → M Fl := sIf (tAndD (tBin eqD (eCall lenO (aCons (eVar 1) (aNil))) (eC (.int 3))) (tAndD (tBin eqD (eBin ixD (eVar 1) (eC (.int 0))) (eC (.str "send"))) (tAndD (tValD (eFn (fn_law_name) (aCons (eBin ixD (eVar 1) (eC (.int 1))) (aNil)))) (tAndD (tBin leD (eC (.int 1)) (eCall lenO (aCons (eBin ixD (eVar 1) (eC (.int 2))) (aNil)))) (tBin leD (eCall lenO (aCons (eBin ixD (eVar 1) (eC (.int 2))) (aNil))) (eC (.int 12))))))) (sRet (eIfD (tOrD (tBin inD (eC (.str "\n")) (eBin ixD (eVar 1) (eC (.int 2)))) (tBin inD (eC (.str "\t")) (eBin ixD (eVar 1) (eC (.int 2))))) (eC .non) (eTup (aCons (eBin ixD (eVar 1) (eC (.int 0))) (aCons (eBin ixD (eVar 1) (eC (.int 1))) (aCons (eBin ixD (eVar 1) (eC (.int 2))) (aNil))))))) (sNil)
def du7 : En → M Fl := sRet (eC .non)
theorem du_all : dn_law_due = sCons du1 (sCons du2 (sCons du3 (sCons du4 (sCons du5 (sCons du6 (du7)))))) := rfl
theorem inD_t3 (w a b c : Str) : inD (.str w) (.tup [.str a, .str b, .str c]) = some (decide (w = a) || (decide (w = b) || decide (w = c))) := by
  unfold inD
  dsimp only
  rw [if_pos ⟨rfl, rfl⟩]
  congr 1
  show (eqF (.str a) (.str w) || (eqF (.str b) (.str w) || (eqF (.str c) (.str w) || false))) = _
  rw [Bool.or_false]
  have e : ∀ x y : Str, eqF (.str x) (.str y) = decide (y = x) := fun x y => by
    show (x == y) = _
    rw [Bool.eq_iff_iff]
    simp only [beq_iff_eq, decide_eq_true_eq]
    exact ⟨fun h => h.symm, fun h => h.symm⟩
  rw [e, e, e]
/-- a word of a step of a number -/
def isN3 (w : Str) : Bool := decide (w = Str.ofString "work") || (decide (w = Str.ofString "sleep") || decide (w = Str.ofString "receive"))
def isT3 (w : Str) : Bool := decide (w = Str.ofString "take") || (decide (w = Str.ofString "give") || decide (w = Str.ofString "ring"))
/-- the step that words write -/
def stepOf : List (List Nat) → Option (List D)
  | [w] => if stepB [.str (tx w)] = true then some [.str (tx w)] else none
  | [w, a] => if isN3 (tx w) = true then (match numV a with
      | some v => if stepB [.str (tx w), .int v] = true then some [.str (tx w), .int v] else none
      | none => none) else if stepB [.str (tx w), .str (tx a)] = true then some [.str (tx w), .str (tx a)] else none
  | [w, a, b] => if tx w = Str.ofString "wait" then (match numV b with
      | some v => if stepB [.str (tx w), .str (tx a), .int v] = true then some [.str (tx w), .str (tx a), .int v] else none
      | none => none) else if stepB [.str (tx w), .str (tx a), .str (tx b)] = true then some [.str (tx w), .str (tx a), .str (tx b)] else none
  | _ => none
theorem step1 (w : List Nat) : stepOf [w] = if stepB [.str (tx w)] = true then some [.str (tx w)] else none := rfl
theorem step2 (w a : List Nat) : stepOf [w, a] = if isN3 (tx w) = true then (match numV a with
      | some v => if stepB [.str (tx w), .int v] = true then some [.str (tx w), .int v] else none
      | none => none) else if stepB [.str (tx w), .str (tx a)] = true then some [.str (tx w), .str (tx a)] else none := rfl
theorem step3 (w a b : List Nat) : stepOf [w, a, b] = if tx w = Str.ofString "wait" then (match numV b with
      | some v => if stepB [.str (tx w), .str (tx a), .int v] = true then some [.str (tx w), .str (tx a), .int v] else none
      | none => none) else if stepB [.str (tx w), .str (tx a), .str (tx b)] = true then some [.str (tx w), .str (tx a), .str (tx b)] else none := rfl
theorem step4 (w a b c : List Nat) (r : List (List Nat)) : stepOf (w :: a :: b :: c :: r) = none := rfl
theorem part_w {w : List Nat} (h : GW 60 w) : Part (.str (tx w)) := .inr ⟨w, rfl, by have := h.l; omega, h.g⟩
theorem osplit_ok (l : List Nat) (hl : l.length ≤ 1000) (r : En) (S : Store) : oSplit (eVar 0) (eC (.str (Str.ofString " "))) (.f (.str (tx l)) :: r) S = .ok ((wordsL l).map fun w => .str (tx w)) S := by
  show (M.bind (eVar 0 (.f (.str (tx l)) :: r)) _ : M (List D)) S = _
  have v : eVar 0 (.f (.str (tx l)) :: r) S = .ok (.str (tx l)) S := rfl
  unfold M.bind
  rw [v]
  show (if (Str.ofString " ").length ≠ 0 ∧ (tx l).length + 2 ≤ lim then (M.ret ((Txt.split (tx l) (Str.ofString " ")).map D.str) : M (List D)) else M.bad) S = _
  rw [if_pos ⟨by rw [blank_tx, tx_len]; decide, by rw [tx_len]; unfold lim; omega⟩, split_tx, List.map_map]
  rfl
/-- what is left of read_step behind its words -/
theorem read_res {T : Str} {WS : List D} {ds : List D} {S : Store} (hp : ∀ d ∈ ds, Part d) : sCons rs5 rs6 [.f (.str T), .f (.lst WS), .f (.tup ds)] S = if stepB ds = true then .ok (.rt (.tup ds)) S else .ok (.ex (Str.ofString "NoStep") [.f (.str T), .f (.lst WS), .f (.tup ds)]) S := by
  have is := is_step_ok hp S
  unfold rs5 rs6
  cases h : stepB ds with
  | true =>
    rw [h] at is
    rw [if_pos rfl]
    clear hp h
    walk_at "ev*"
  | false =>
    rw [h] at is
    rw [if_neg (by simp)]
    clear hp h
    walk_at "ev*"
def resR (o : Option (List D)) (S : Store) : R Res := match o with
  | some ds => .ok (.f (.tup ds)) S
  | none => .exc (Str.ofString "NoStep") S
theorem fin_R {S : Store} {T : Str} {o : Option (List D)} {W : En → M Fl} {env : En} (h : match o with
    | some ds => W [.f (.str T), .u, .u] S = .ok (.rt (.tup ds)) S
    | none => W [.f (.str T), .u, .u] S = .ok (.ex (Str.ofString "NoStep") env) S) : fnD 3 W [.str T] S = resR o S := by
  unfold resR
  cases o with
  | some ds =>
    dsimp only at h ⊢
    walk_at "ev*"
  | none =>
    dsimp only at h ⊢
    walk_at "ev*"
theorem rs12_ok {l : List Nat} (hl : l.length ≤ 60) (S : Store) (r : En → M Fl) : sCons rs1 (sCons rs2 r) [.f (.str (tx l)), .u, .u] S = r [.f (.str (tx l)), .f (.lst ((wordsL l).map fun w => .str (tx w))), .f (.tup ((wordsL l).map fun w => .str (tx w)))] S := by
  have os := osplit_ok l (by omega) [.u, .u] S
  unfold rs1 rs2
  generalize (wordsL l).map (fun w => D.str (tx w)) = WW at *
  generalize tx l = T at *
  generalize oSplit (eVar 0) (eC (.str (Str.ofString " "))) = OS at *
  walk_at "ev*"
/-- words that are not two or three: untouched -/
theorem rs34_no {T : Str} {WS : List D} {st : D} {S : Store} {n : Nat} (hn : WS.length = n) (h2 : n ≠ 2) (h3 : n ≠ 3) (r : En → M Fl) : sCons rs3 (sCons rs4 r) [.f (.str T), .f (.lst WS), .f st] S = r [.f (.str T), .f (.lst WS), .f st] S := by
  have ln : lenO [.lst WS] = some (.int n) := by rw [← hn]; rfl
  have e2 : ((n : Int) = 2) = False := eq_false (by omega)
  have e3 : ((n : Int) = 3) = False := eq_false (by omega)
  unfold rs3 rs4
  clear hn h2 h3
  generalize (n : Int) = k at *
  walk_at "ev*"
theorem rs3_2 {T w a : Str} {st : D} {S : Store} : rs3 [.f (.str T), .f (.lst [.str w, .str a]), .f st] S = if isN3 w = true then (match fn_number_of [.str a] S with
    | .ok r S' => .ok (.nx [.f (.str T), .f (.lst [.str w, .str a]), .f (.tup [.str w, r.d])]) S'
    | .exc c S' => .ok (.ex c [.f (.str T), .f (.lst [.str w, .str a]), .f st]) S'
    | .bad => .bad) else .ok (.nx [.f (.str T), .f (.lst [.str w, .str a]), .f st]) S := by
  have i3 := inD_t3 w (Str.ofString "work") (Str.ofString "sleep") (Str.ofString "receive")
  rw [show (decide (w = Str.ofString "work") || (decide (w = Str.ofString "sleep") || decide (w = Str.ofString "receive"))) = isN3 w from rfl] at i3
  have ln : lenO [.lst [.str w, .str a]] = some (.int 2) := rfl
  unfold rs3
  cases h : isN3 w with
  | true =>
    rw [h] at i3
    rw [if_pos rfl]
    clear h
    cases hf : fn_number_of [.str a] S with
    | ok r S' => walk_at "ev*"
    | exc c S' => walk_at "ev*"
    | bad => walk_at "ev*"
  | false =>
    rw [h] at i3
    rw [if_neg (by simp)]
    clear h
    walk_at "ev*"
theorem rs4_2 {T w a : Str} {st : D} {S : Store} : rs4 [.f (.str T), .f (.lst [.str w, .str a]), .f st] S = .ok (.nx [.f (.str T), .f (.lst [.str w, .str a]), .f st]) S := by
  have ln : lenO [.lst [.str w, .str a]] = some (.int 2) := rfl
  unfold rs4
  walk_at "ev*"
theorem rs3_3 {T w a b : Str} {st : D} {S : Store} : rs3 [.f (.str T), .f (.lst [.str w, .str a, .str b]), .f st] S = .ok (.nx [.f (.str T), .f (.lst [.str w, .str a, .str b]), .f st]) S := by
  have ln : lenO [.lst [.str w, .str a, .str b]] = some (.int 3) := rfl
  unfold rs3
  walk_at "ev*"
theorem rs4_3 {T w a b : Str} {st : D} {S : Store} : rs4 [.f (.str T), .f (.lst [.str w, .str a, .str b]), .f st] S = if w = Str.ofString "wait" then (match fn_number_of [.str b] S with
    | .ok r S' => .ok (.nx [.f (.str T), .f (.lst [.str w, .str a, .str b]), .f (.tup [.str w, .str a, r.d])]) S'
    | .exc c S' => .ok (.ex c [.f (.str T), .f (.lst [.str w, .str a, .str b]), .f st]) S'
    | .bad => .bad) else .ok (.nx [.f (.str T), .f (.lst [.str w, .str a, .str b]), .f st]) S := by
  have ln : lenO [.lst [.str w, .str a, .str b]] = some (.int 3) := rfl
  unfold rs4
  by_cases h : w = Str.ofString "wait"
  · rw [if_pos h]
    have h := eq_true h
    cases hf : fn_number_of [.str b] S with
    | ok r S' => walk_at "ev*"
    | exc c S' => walk_at "ev*"
    | bad => walk_at "ev*"
  · rw [if_neg h]
    have h := eq_false h
    walk_at "ev*"
theorem sCons_ex {a b : En → M Fl} {env env' : En} {S S' : Store} {c : Str} (h : a env S = .ok (.ex c env') S') : sCons a b env S = .ok (.ex c env') S' := by
  show (M.bind (a env) _ : M Fl) S = _
  unfold M.bind
  rw [h]; rfl
theorem read_ok {l : List Nat} (hg : l.all goodB = true) (hl : l.length ≤ 60) (S : Store) : fn_read_step [.str (tx l)] S = resR (stepOf (wordsL l)) S := by
  have gw := words_good hg hl
  have ne : wordsL l ≠ [] := spl_ne l []
  have pre := fun r => rs12_ok hl S r
  unfold fn_read_step
  rw [rs_all]
  generalize tx l = T at *
  generalize wordsL l = W at *
  match W, ne, gw, pre with
  | [], ne, _, _ => exact absurd rfl ne
  | [w], _, gw, pre =>
    have gp : ∀ d ∈ [D.str (tx w)], Part d := fun d hd => by
      rw [List.mem_singleton.mp hd]; exact part_w (gw w List.mem_cons_self)
    have rr := read_res (T := T) (WS := [.str (tx w)]) (S := S) gp
    rw [step1]
    refine fin_R (env := [.f (.str T), .f (.lst [.str (tx w)]), .f (.tup [.str (tx w)])]) ?_
    by_cases h : stepB [.str (tx w)] = true
    · rw [if_pos h] at rr ⊢
      dsimp only
      rw [pre]
      exact (rs34_no (n := 1) rfl (by decide) (by decide) _).trans rr
    · rw [if_neg h] at rr ⊢
      dsimp only
      rw [pre]
      exact (rs34_no (n := 1) rfl (by decide) (by decide) _).trans rr
  | [w, a], _, gw, pre =>
    have g1 := gw w List.mem_cons_self
    have g2 := gw a (List.mem_cons_of_mem _ List.mem_cons_self)
    have gs : ∀ d ∈ [D.str (tx w), .str (tx a)], Part d := fun d hd => by
      simp only [List.mem_cons, List.not_mem_nil, or_false] at hd
      rcases hd with rfl | rfl
      · exact part_w g1
      · exact part_w g2
    have nf := number_of_ok a (Nat.le_trans g2.l (by decide)) S
    have r3 := rs3_2 (T := T) (w := tx w) (a := tx a) (st := .tup [.str (tx w), .str (tx a)]) (S := S)
    rw [step2]
    cases hn : isN3 (tx w) with
    | true =>
      rw [if_pos rfl]
      rw [hn, if_pos rfl, nf] at r3
      cases hv : numV a with
      | none =>
        rw [hv] at r3
        refine fin_R (env := [.f (.str T), .f (.lst [.str (tx w), .str (tx a)]), .f (.tup [.str (tx w), .str (tx a)])]) ?_
        dsimp only
        rw [pre]
        exact sCons_ex r3
      | some v =>
        rw [hv] at r3
        dsimp only at r3 ⊢
        have gi : ∀ d ∈ [D.str (tx w), .int v], Part d := fun d hd => by
          simp only [List.mem_cons, List.not_mem_nil, or_false] at hd
          rcases hd with rfl | rfl
          · exact part_w g1
          · exact .inl ⟨_, rfl⟩
        have rr := read_res (T := T) (WS := [.str (tx w), .str (tx a)]) (S := S) gi
        refine fin_R (env := [.f (.str T), .f (.lst [.str (tx w), .str (tx a)]), .f (.tup [.str (tx w), .int v])]) ?_
        by_cases h : stepB [.str (tx w), .int v] = true
        · rw [if_pos h] at rr ⊢
          dsimp only
          rw [pre]
          exact (sCons_nx' r3).trans ((sCons_nx' rs4_2).trans rr)
        · rw [if_neg h] at rr ⊢
          dsimp only
          rw [pre]
          exact (sCons_nx' r3).trans ((sCons_nx' rs4_2).trans rr)
    | false =>
      rw [if_neg (by simp)]
      rw [hn, if_neg (by simp)] at r3
      have rr := read_res (T := T) (WS := [.str (tx w), .str (tx a)]) (S := S) gs
      refine fin_R (env := [.f (.str T), .f (.lst [.str (tx w), .str (tx a)]), .f (.tup [.str (tx w), .str (tx a)])]) ?_
      by_cases h : stepB [.str (tx w), .str (tx a)] = true
      · rw [if_pos h] at rr ⊢
        dsimp only
        rw [pre]
        exact (sCons_nx' r3).trans ((sCons_nx' rs4_2).trans rr)
      · rw [if_neg h] at rr ⊢
        dsimp only
        rw [pre]
        exact (sCons_nx' r3).trans ((sCons_nx' rs4_2).trans rr)
  | [w, a, b], _, gw, pre =>
    have g1 := gw w List.mem_cons_self
    have g2 := gw a (List.mem_cons_of_mem _ List.mem_cons_self)
    have g3 := gw b (List.mem_cons_of_mem _ (List.mem_cons_of_mem _ List.mem_cons_self))
    have gs : ∀ d ∈ [D.str (tx w), .str (tx a), .str (tx b)], Part d := fun d hd => by
      simp only [List.mem_cons, List.not_mem_nil, or_false] at hd
      rcases hd with rfl | rfl | rfl
      · exact part_w g1
      · exact part_w g2
      · exact part_w g3
    have nf := number_of_ok b (Nat.le_trans g3.l (by decide)) S
    have r4 := rs4_3 (T := T) (w := tx w) (a := tx a) (b := tx b) (st := .tup [.str (tx w), .str (tx a), .str (tx b)]) (S := S)
    rw [step3]
    by_cases hn : tx w = Str.ofString "wait"
    · rw [if_pos hn]
      rw [if_pos hn, nf] at r4
      cases hv : numV b with
      | none =>
        rw [hv] at r4
        refine fin_R (env := [.f (.str T), .f (.lst [.str (tx w), .str (tx a), .str (tx b)]), .f (.tup [.str (tx w), .str (tx a), .str (tx b)])]) ?_
        dsimp only
        rw [pre]
        exact (sCons_nx' rs3_3).trans (sCons_ex r4)
      | some v =>
        rw [hv] at r4
        dsimp only at r4 ⊢
        have gi : ∀ d ∈ [D.str (tx w), .str (tx a), .int v], Part d := fun d hd => by
          simp only [List.mem_cons, List.not_mem_nil, or_false] at hd
          rcases hd with rfl | rfl | rfl
          · exact part_w g1
          · exact part_w g2
          · exact .inl ⟨_, rfl⟩
        have rr := read_res (T := T) (WS := [.str (tx w), .str (tx a), .str (tx b)]) (S := S) gi
        refine fin_R (env := [.f (.str T), .f (.lst [.str (tx w), .str (tx a), .str (tx b)]), .f (.tup [.str (tx w), .str (tx a), .int v])]) ?_
        by_cases h : stepB [.str (tx w), .str (tx a), .int v] = true
        · rw [if_pos h] at rr ⊢
          dsimp only
          rw [pre]
          exact (sCons_nx' rs3_3).trans ((sCons_nx' r4).trans rr)
        · rw [if_neg h] at rr ⊢
          dsimp only
          rw [pre]
          exact (sCons_nx' rs3_3).trans ((sCons_nx' r4).trans rr)
    · rw [if_neg hn]
      rw [if_neg hn] at r4
      have rr := read_res (T := T) (WS := [.str (tx w), .str (tx a), .str (tx b)]) (S := S) gs
      refine fin_R (env := [.f (.str T), .f (.lst [.str (tx w), .str (tx a), .str (tx b)]), .f (.tup [.str (tx w), .str (tx a), .str (tx b)])]) ?_
      by_cases h : stepB [.str (tx w), .str (tx a), .str (tx b)] = true
      · rw [if_pos h] at rr ⊢
        dsimp only
        rw [pre]
        exact (sCons_nx' rs3_3).trans ((sCons_nx' r4).trans rr)
      · rw [if_neg h] at rr ⊢
        dsimp only
        rw [pre]
        exact (sCons_nx' rs3_3).trans ((sCons_nx' r4).trans rr)
  | w :: a :: b :: c :: r, _, gw, pre =>
    have gs : ∀ d ∈ (w :: a :: b :: c :: r).map (fun w => D.str (tx w)), Part d := fun d hd => by
      obtain ⟨x, hx, rfl⟩ := List.mem_map.mp hd
      exact part_w (gw x hx)
    have rr := read_res (T := T) (WS := (w :: a :: b :: c :: r).map fun w => .str (tx w)) (S := S) gs
    have sb : stepB ((w :: a :: b :: c :: r).map fun w => .str (tx w)) = false := rfl
    rw [sb, if_neg (by simp)] at rr
    rw [step4]
    refine fin_R (env := [.f (.str T), .f (.lst ((w :: a :: b :: c :: r).map fun w => .str (tx w))), .f (.tup ((w :: a :: b :: c :: r).map fun w => .str (tx w)))]) ?_
    dsimp only
    rw [pre]
    exact (rs34_no (n := r.length + 4) (by simp) (by omega) (by omega) _).trans rr

/-! ### k04: what is due -/
def dueD (o : Option (List D)) : D := match o with
  | some ds => .tup ds
  | none => .non
def low3 (w : Str) : Int := if w = Str.ofString "receive" then 0 else 1
theorem ofne {a b : String} (h : a ≠ b) : ¬ Str.ofString a = Str.ofString b := fun z => by rw [ofString_inj] at z; exact h z
theorem isW_str (a s : Str) : isW (.str a) s = decide (a = s) := rfl
theorem numB_int (i k : Int) : numB (.int i) k = (decide (k ≤ i) && decide (i ≤ 1000)) := rfl
theorem step_num {w : Str} (h : isN3 w = true) (v : Int) : stepB [.str w, .int v] = (decide (low3 w ≤ v) && decide (v ≤ 1000)) := by
  unfold isN3 at h
  simp only [Bool.or_eq_true, decide_eq_true_eq] at h
  show pairB (.str w) (.int v) = _
  rcases h with rfl | rfl | rfl <;> simp [pairB, low3, isW_str, numB_int, ofString_inj]
theorem step_nam {w : Str} (h : isN3 w = false) (a : List Nat) : stepB [.str w, .str (tx a)] = (isT3 w && nameB a) := by
  unfold isN3 at h
  simp only [Bool.or_eq_false_iff, decide_eq_false_iff_not] at h
  show pairB (.str w) (.str (tx a)) = _
  have nb : namB (.str (tx a)) = nameB a := rfl
  by_cases c1 : w = Str.ofString "take" <;> by_cases c2 : w = Str.ofString "give" <;> by_cases c3 : w = Str.ofString "ring" <;> simp [pairB, isT3, isW_str, nb, h.1, h.2.1, h.2.2, c1, c2, c3, ofString_inj]
theorem step_wait {w : Str} (h : w = Str.ofString "wait") (a : List Nat) (v : Int) : stepB [.str w, .str (tx a), .int v] = (nameB a && (decide (0 ≤ v) && decide (v ≤ 1000))) := by
  show tripB (.str w) (.str (tx a)) (.int v) = _
  have nb : namB (.str (tx a)) = nameB a := rfl
  simp [tripB, isW_str, numB_int, nb, h]
theorem step_send {w : Str} (h : ¬ w = Str.ofString "wait") (a b : List Nat) : stepB [.str w, .str (tx a), .str (tx b)] = (decide (w = Str.ofString "send") && (nameB a && wordB b)) := by
  show tripB (.str w) (.str (tx a)) (.str (tx b)) = _
  have nb : namB (.str (tx a)) = nameB a := rfl
  have wb : wrdB (.str (tx b)) = wordB b := rfl
  by_cases c : w = Str.ofString "send" <;> simp [tripB, isW_str, nb, wb, h, c, ofString_inj]
theorem du1_ok {l : List Nat} (hl : l.length ≤ 60) (S : Store) : du1 [.f (.str (tx l)), .u, .u] S = .ok (.nx [.f (.str (tx l)), .f (.lst ((wordsL l).map fun w => .str (tx w))), .u]) S := by
  have os := osplit_ok l (by omega) [.u, .u] S
  unfold du1
  generalize (wordsL l).map (fun w => D.str (tx w)) = WW at *
  generalize tx l = T at *
  generalize oSplit (eVar 0) (eC (.str (Str.ofString " "))) = OS at *
  walk_at "ev*"
theorem du2_ok {T : Str} {W : List (List Nat)} (hg : ∀ w ∈ W, w.all goodB = true) (S : Store) : du2 [.f (.str T), .f (.lst (W.map fun w => .str (tx w))), .u] S = if W.map tx = [Str.ofString "again"] then .ok (.rt (.tup [.str (Str.ofString "again")])) S else .ok (.nx [.f (.str T), .f (.lst (W.map fun w => .str (tx w))), .u]) S := by
  have e : eqD (.lst (W.map fun w => .str (tx w))) (.lst [.str (Str.ofString "again")]) = some (decide (W.map tx = [Str.ofString "again"])) := by
    have := eqD_strs (xs := W.map tx) (ys := [Str.ofString "again"]) (fun x hx => by
      obtain ⟨w, hw, rfl⟩ := List.mem_map.mp hx
      exact good_lt (hg w hw)) (fun x hx => by rw [List.mem_singleton.mp hx]; exact lit_ok "again")
    rw [List.map_map] at this
    exact this
  unfold du2
  generalize (W.map fun w => D.str (tx w)) = WS at *
  by_cases h : W.map tx = [Str.ofString "again"]
  · rw [decide_eq_true h] at e
    rw [if_pos h]
    clear h hg
    walk_at "ev*"
  · rw [decide_eq_false h] at e
    rw [if_neg h]
    clear h hg
    walk_at "ev*"
theorem du36_no {T : Str} {WS : List D} {S : Store} {n : Nat} (hn : WS.length = n) (h2 : n ≠ 2) (h3 : n ≠ 3) : sCons du3 (sCons du4 (sCons du5 (sCons du6 du7))) [.f (.str T), .f (.lst WS), .u] S = .ok (.rt .non) S := by
  have ln : lenO [.lst WS] = some (.int n) := by rw [← hn]; rfl
  have e2 : ((n : Int) = 2) = False := eq_false (by omega)
  have e3 : ((n : Int) = 3) = False := eq_false (by omega)
  clear hn h2 h3
  generalize (n : Int) = k at *
  have s3 : du3 [.f (.str T), .f (.lst WS), .u] S = .ok (.nx [.f (.str T), .f (.lst WS), .u]) S := by
    unfold du3; walk_at "ev*"
  have s4 : du4 [.f (.str T), .f (.lst WS), .u] S = .ok (.nx [.f (.str T), .f (.lst WS), .u]) S := by
    clear s3; unfold du4; walk_at "ev*"
  have s5 : du5 [.f (.str T), .f (.lst WS), .u] S = .ok (.nx [.f (.str T), .f (.lst WS), .u]) S := by
    clear s3 s4; unfold du5; walk_at "ev*"
  have s6 : du6 [.f (.str T), .f (.lst WS), .u] S = .ok (.nx [.f (.str T), .f (.lst WS), .u]) S := by
    clear s3 s4 s5; unfold du6; walk_at "ev*"
  rw [sCons_nx' s3, sCons_nx' s4, sCons_nx' s5, sCons_nx' s6]
  unfold du7
  clear s3 s4 s5 s6 ln e2 e3
  walk_at "ev"
section
variable {T w a b : Str} {S : Store}
theorem du3_2 {n : Int} (hn : fn_law_number [.str a, .int (low3 w)] S = .ok (.f (.int n)) S) : du3 [.f (.str T), .f (.lst [.str w, .str a]), .u] S = if isN3 w = true then .ok (.rt (if 0 ≤ n then .tup [.str w, .int n] else .non)) S else .ok (.nx [.f (.str T), .f (.lst [.str w, .str a]), .u]) S := by
  have i3 := inD_t3 w (Str.ofString "work") (Str.ofString "sleep") (Str.ofString "receive")
  rw [show (decide (w = Str.ofString "work") || (decide (w = Str.ofString "sleep") || decide (w = Str.ofString "receive"))) = isN3 w from rfl] at i3
  have ln : lenO [.lst [.str w, .str a]] = some (.int 2) := rfl
  have lo : eCall intO (aCons (eBin (obl neD) (eBin ixD (eVar 1) (eC (.int 0))) (eC (.str (Str.ofString "receive")))) (aNil)) [.f (.str T), .f (.lst [.str w, .str a]), .u] S = .ok (.int (low3 w)) S := by
    unfold low3
    by_cases c : w = Str.ofString "receive"
    · rw [if_pos c]
      have c := eq_true c
      clear i3 ln hn
      walk_at "ev*"
    · rw [if_neg c]
      have c := eq_false c
      clear i3 ln hn
      walk_at "ev*"
  unfold du3
  generalize low3 w = lw at *
  cases h : isN3 w with
  | true =>
    rw [h] at i3
    rw [if_pos rfl]
    clear h
    generalize eCall intO (aCons (eBin (obl neD) (eBin ixD (eVar 1) (eC (.int 0))) (eC (.str (Str.ofString "receive")))) (aNil)) = LO at *
    by_cases c : 0 ≤ n
    · rw [if_pos c]
      have c := eq_true c
      walk_at "ev*"
    · rw [if_neg c]
      have c := eq_false c
      walk_at "ev*"
  | false =>
    rw [h] at i3
    rw [if_neg (by simp)]
    clear h lo hn
    walk_at "ev*"
theorem du4_2 {q : Bool} (hn : fn_law_name [.str a] S = .ok (.f (.bl q)) S) : du4 [.f (.str T), .f (.lst [.str w, .str a]), .u] S = if (isT3 w && q) = true then .ok (.rt (.tup [.str w, .str a])) S else .ok (.nx [.f (.str T), .f (.lst [.str w, .str a]), .u]) S := by
  have i3 := inD_t3 w (Str.ofString "take") (Str.ofString "give") (Str.ofString "ring")
  rw [show (decide (w = Str.ofString "take") || (decide (w = Str.ofString "give") || decide (w = Str.ofString "ring"))) = isT3 w from rfl] at i3
  have ln : lenO [.lst [.str w, .str a]] = some (.int 2) := rfl
  unfold du4
  generalize isT3 w = t at *
  cases t <;> cases q <;> walk_at "ev*"
theorem du56_2 : sCons du5 (sCons du6 du7) [.f (.str T), .f (.lst [.str w, .str a]), .u] S = .ok (.rt .non) S := by
  have ln : lenO [.lst [.str w, .str a]] = some (.int 2) := rfl
  have s5 : du5 [.f (.str T), .f (.lst [.str w, .str a]), .u] S = .ok (.nx [.f (.str T), .f (.lst [.str w, .str a]), .u]) S := by
    unfold du5; walk_at "ev*"
  have s6 : du6 [.f (.str T), .f (.lst [.str w, .str a]), .u] S = .ok (.nx [.f (.str T), .f (.lst [.str w, .str a]), .u]) S := by
    clear s5; unfold du6; walk_at "ev*"
  rw [sCons_nx' s5, sCons_nx' s6]
  unfold du7
  clear s5 s6 ln
  walk_at "ev"
theorem du34_3 : sCons du3 (sCons du4 (sCons du5 (sCons du6 du7))) [.f (.str T), .f (.lst [.str w, .str a, .str b]), .u] S = sCons du5 (sCons du6 du7) [.f (.str T), .f (.lst [.str w, .str a, .str b]), .u] S := by
  have ln : lenO [.lst [.str w, .str a, .str b]] = some (.int 3) := rfl
  have s3 : du3 [.f (.str T), .f (.lst [.str w, .str a, .str b]), .u] S = .ok (.nx [.f (.str T), .f (.lst [.str w, .str a, .str b]), .u]) S := by
    unfold du3; walk_at "ev*"
  have s4 : du4 [.f (.str T), .f (.lst [.str w, .str a, .str b]), .u] S = .ok (.nx [.f (.str T), .f (.lst [.str w, .str a, .str b]), .u]) S := by
    clear s3; unfold du4; walk_at "ev*"
  rw [sCons_nx' s3, sCons_nx' s4]
theorem du5_3 {q : Bool} {n : Int} (hq : fn_law_name [.str a] S = .ok (.f (.bl q)) S) (hn : fn_law_number [.str b, .int 0] S = .ok (.f (.int n)) S) : du5 [.f (.str T), .f (.lst [.str w, .str a, .str b]), .u] S = if w = Str.ofString "wait" ∧ q = true ∧ 0 ≤ n then .ok (.rt (.tup [.str w, .str a, .int n])) S else .ok (.nx [.f (.str T), .f (.lst [.str w, .str a, .str b]), .u]) S := by
  have ln : lenO [.lst [.str w, .str a, .str b]] = some (.int 3) := rfl
  unfold du5
  by_cases c : w = Str.ofString "wait"
  · cases q with
    | true =>
      by_cases c3 : 0 ≤ n
      · rw [if_pos ⟨c, rfl, c3⟩]
        have c := eq_true c
        have c3 := eq_true c3
        walk_at "ev*"
      · rw [if_neg fun z => c3 z.2.2]
        have c := eq_true c
        have c3 := eq_false c3
        walk_at "ev*"
    | false =>
      rw [if_neg fun z => by cases z.2.1]
      have c := eq_true c
      walk_at "ev*"
  · rw [if_neg fun z => c z.1]
    have c := eq_false c
    walk_at "ev*"
end
theorem du6_3 {T w a : Str} {b : List Nat} {S : Store} (hb : b.length ≤ 100) {q : Bool} (hq : fn_law_name [.str a] S = .ok (.f (.bl q)) S) : du6 [.f (.str T), .f (.lst [.str w, .str a, .str (tx b)]), .u] S = if w = Str.ofString "send" ∧ q = true ∧ 1 ≤ b.length ∧ b.length ≤ 12 then .ok (.rt (if 10 ∈ b ∨ 9 ∈ b then .non else .tup [.str w, .str a, .str (tx b)])) S else .ok (.nx [.f (.str T), .f (.lst [.str w, .str a, .str (tx b)]), .u]) S := by
  have ln : lenO [.lst [.str w, .str a, .str (tx b)]] = some (.int 3) := rfl
  have lb : lenO [.str (tx b)] = some (.int b.length) := lenO_tx b (Nat.le_trans hb (by decide))
  have i10 : inD (.str (Str.ofString "\n")) (.str (tx b)) = some (decide (10 ∈ b)) := by
    rw [show (Str.ofString "\n") = ⟨#[10]⟩ by decide]; exact inD_sign 10 b
  have i9 : inD (.str (Str.ofString "\t")) (.str (tx b)) = some (decide (9 ∈ b)) := by
    rw [show (Str.ofString "\t") = ⟨#[9]⟩ by decide]; exact inD_sign 9 b
  unfold du6
  by_cases c : w = Str.ofString "send"
  · cases q with
    | true =>
      by_cases c1 : 1 ≤ b.length
      · by_cases c2 : b.length ≤ 12
        · rw [if_pos ⟨c, rfl, c1, c2⟩]
          have c := eq_true c
          have c1 : ((1 : Int) ≤ (b.length : Int)) = True := eq_true (by omega)
          have c2 : ((b.length : Int) ≤ 12) = True := eq_true (by omega)
          by_cases d1 : 10 ∈ b
          · rw [if_pos (.inl d1)]
            rw [decide_eq_true d1] at i10
            clear d1 hb
            generalize (b.length : Int) = nb at *
            generalize tx b = B at *
            walk_at "ev*"
          · rw [decide_eq_false d1] at i10
            by_cases d2 : 9 ∈ b
            · rw [if_pos (.inr d2)]
              rw [decide_eq_true d2] at i9
              clear d1 d2 hb
              generalize (b.length : Int) = nb at *
              generalize tx b = B at *
              walk_at "ev*"
            · rw [if_neg (fun z => z.elim d1 d2)]
              rw [decide_eq_false d2] at i9
              clear d1 d2 hb
              generalize (b.length : Int) = nb at *
              generalize tx b = B at *
              walk_at "ev*"
        · rw [if_neg fun z => c2 z.2.2.2]
          have c := eq_true c
          have c1 : ((1 : Int) ≤ (b.length : Int)) = True := eq_true (by omega)
          have c2 : ((b.length : Int) ≤ 12) = False := eq_false (by omega)
          clear i10 i9 hb
          generalize (b.length : Int) = nb at *
          generalize tx b = B at *
          walk_at "ev*"
      · rw [if_neg fun z => c1 z.2.2.1]
        have c := eq_true c
        have c1 : ((1 : Int) ≤ (b.length : Int)) = False := eq_false (by omega)
        clear i10 i9 hb
        generalize (b.length : Int) = nb at *
        generalize tx b = B at *
        walk_at "ev*"
    | false =>
      rw [if_neg fun z => by cases z.2.1]
      have c := eq_true c
      clear i10 i9 hb lb
      generalize tx b = B at *
      walk_at "ev*"
  · rw [if_neg fun z => c z.1]
    have c := eq_false c
    clear i10 i9 hb lb
    generalize tx b = B at *
    walk_at "ev*"
theorem fin_D {S : Store} {T : Str} {d : D} {W : En → M Fl} (h : W [.f (.str T), .u, .u] S = .ok (.rt d) S) : fnD 3 W [.str T] S = .ok (.f d) S := by
  walk_at "ev*"
theorem lawNum_eq (a : List Nat) {low : Int} (h0 : 0 ≤ low) : (match numV a with
      | some v => if (decide (low ≤ v) && decide (v ≤ 1000)) = true then some v else none
      | none => none) = if 0 ≤ lawNum a low then some (lawNum a low) else none := by
  cases h : numV a with
  | none =>
    have e : lawNum a low = -1 := by unfold lawNum; rw [h]
    rw [e]; rfl
  | some v =>
    dsimp only
    by_cases c : low ≤ v ∧ v ≤ 1000
    · have e : lawNum a low = v := by unfold lawNum; rw [h]; exact if_pos c
      rw [e, if_pos (show 0 ≤ v by omega), if_pos (by rw [decide_eq_true c.1, decide_eq_true c.2]; rfl)]
    · have e : lawNum a low = -1 := by unfold lawNum; rw [h]; exact if_neg c
      rw [e, if_neg (show ¬ (0 : Int) ≤ -1 by omega), if_neg (by simp; omega)]
theorem due_ok {l : List Nat} (hg : l.all goodB = true) (hl : l.length ≤ 60) (S : Store) : fn_law_due [.str (tx l)] S = .ok (.f (dueD (stepOf (wordsL l)))) S := by
  have gw := words_good hg hl
  have ne : wordsL l ≠ [] := spl_ne l []
  have s1 := du1_ok hl S
  have s2 := du2_ok (T := tx l) (W := wordsL l) (fun w hw => (gw w hw).g) S
  unfold fn_law_due
  rw [du_all]
  refine fin_D ?_
  rw [sCons_nx' s1]
  clear s1
  generalize tx l = T at *
  generalize wordsL l = W at *
  match W, ne, gw, s2 with
  | [], ne, _, _ => exact absurd rfl ne
  | [w], _, gw, s2 =>
    rw [step1]
    by_cases h : tx w = Str.ofString "again"
    · rw [if_pos (by show [tx w] = _; rw [h])] at s2
      rw [if_pos (by show decide (tx w = Str.ofString "again") = true; exact decide_eq_true h)]
      show sCons du2 _ [.f (.str T), .f (.lst ([w].map fun w => .str (tx w))), .u] S = Dn.R.ok (Fl.rt (D.tup [D.str (tx w)])) S
      rw [h]
      have : ∀ r : En → M Fl, sCons du2 r [.f (.str T), .f (.lst ([w].map fun w => .str (tx w))), .u] S = .ok (.rt (.tup [.str (Str.ofString "again")])) S := fun r => by
        show (M.bind (du2 [.f (.str T), .f (.lst ([w].map fun w => .str (tx w))), .u]) _ : M Fl) S = _
        unfold M.bind
        rw [s2]; rfl
      exact this _
    · rw [if_neg (by intro z; exact h (List.cons.inj z).1)] at s2
      rw [if_neg (by show ¬ decide (tx w = Str.ofString "again") = true; simpa using h)]
      rw [sCons_nx' s2]
      exact du36_no (n := 1) rfl (by decide) (by decide)
  | [w, a], _, gw, s2 =>
    rw [if_neg (by intro z; cases z)] at s2
    rw [step2, sCons_nx' s2]
    have g2 := gw a (List.mem_cons_of_mem _ List.mem_cons_self)
    have s3 := du3_2 (T := T) (w := tx w) (lnumber_ok a (Nat.le_trans g2.l (by decide)) (low3 (tx w)) S)
    have s4 := du4_2 (T := T) (w := tx w) (lname_ok a (Nat.le_trans g2.l (by decide)) S)
    show sCons du3 _ [.f (.str T), .f (.lst [.str (tx w), .str (tx a)]), .u] S = _
    have rt : ∀ {d : D} {q : En → M Fl} (r : En → M Fl), q [.f (.str T), .f (.lst [.str (tx w), .str (tx a)]), .u] S = .ok (.rt d) S → sCons q r [.f (.str T), .f (.lst [.str (tx w), .str (tx a)]), .u] S = .ok (.rt d) S := fun {d q} r h => by
      show (M.bind (q [.f (.str T), .f (.lst [.str (tx w), .str (tx a)]), .u]) _ : M Fl) S = _
      unfold M.bind
      rw [h]; rfl
    cases hn : isN3 (tx w) with
    | true =>
      rw [hn, if_pos rfl] at s3
      rw [if_pos rfl, rt _ s3]
      congr 3
      have lo : 0 ≤ low3 (tx w) := by unfold low3; split <;> decide
      have e := lawNum_eq a lo
      cases hv : numV a with
      | none =>
        rw [hv] at e
        dsimp only at e ⊢
        by_cases c : 0 ≤ lawNum a (low3 (tx w))
        · rw [if_pos c] at e; cases e
        · rw [if_neg c]; rfl
      | some v =>
        rw [hv] at e
        dsimp only at e ⊢
        rw [step_num hn]
        by_cases c : 0 ≤ lawNum a (low3 (tx w))
        · rw [if_pos c] at e ⊢
          split at e
          · rename_i q
            rw [if_pos q]
            cases e
            rfl
          · cases e
        · rw [if_neg c] at e ⊢
          split at e
          · cases e
          · rename_i q
            rw [if_neg q]; rfl
    | false =>
      rw [hn, if_neg (by simp)] at s3
      rw [if_neg (by simp), sCons_nx' s3, step_nam hn]
      by_cases q : (isT3 (tx w) && nameB a) = true
      · rw [if_pos q] at s4 ⊢
        rw [rt _ s4]; rfl
      · rw [if_neg q] at s4 ⊢
        rw [sCons_nx' s4]
        exact du56_2
  | [w, a, b], _, gw, s2 =>
    rw [if_neg (by intro z; cases z)] at s2
    rw [step3, sCons_nx' s2]
    have g2 := gw a (List.mem_cons_of_mem _ List.mem_cons_self)
    have g3 := gw b (List.mem_cons_of_mem _ (List.mem_cons_of_mem _ List.mem_cons_self))
    have ln := lname_ok a (Nat.le_trans g2.l (by decide)) S
    have s5 := du5_3 (T := T) (w := tx w) ln (lnumber_ok b (Nat.le_trans g3.l (by decide)) 0 S)
    have s6 := du6_3 (T := T) (w := tx w) (Nat.le_trans g3.l (by decide)) ln
    show sCons du3 _ [.f (.str T), .f (.lst [.str (tx w), .str (tx a), .str (tx b)]), .u] S = _
    rw [du34_3]
    have rt : ∀ {d : D} {q : En → M Fl} (r : En → M Fl), q [.f (.str T), .f (.lst [.str (tx w), .str (tx a), .str (tx b)]), .u] S = .ok (.rt d) S → sCons q r [.f (.str T), .f (.lst [.str (tx w), .str (tx a), .str (tx b)]), .u] S = .ok (.rt d) S := fun {d q} r h => by
      show (M.bind (q [.f (.str T), .f (.lst [.str (tx w), .str (tx a), .str (tx b)]), .u]) _ : M Fl) S = _
      unfold M.bind
      rw [h]; rfl
    have s7 : du7 [.f (.str T), .f (.lst [.str (tx w), .str (tx a), .str (tx b)]), .u] S = .ok (.rt .non) S := by
      generalize tx w = w'
      generalize tx a = a'
      generalize tx b = b'
      unfold du7
      walk_at "ev"
    by_cases hn : tx w = Str.ofString "wait"
    · rw [if_pos hn]
      rw [if_neg (fun z => by have := z.1; rw [hn] at this; exact ofne (by decide) this)] at s6
      have e := lawNum_eq b (low := 0) (by decide)
      cases hv : numV b with
      | none =>
        rw [hv] at e
        dsimp only at e ⊢
        by_cases c : 0 ≤ lawNum b 0
        · rw [if_pos c] at e; cases e
        · rw [if_neg (fun z => c z.2.2)] at s5
          rw [sCons_nx' s5, sCons_nx' s6, s7]; rfl
      | some v =>
        rw [hv] at e
        dsimp only at e ⊢
        rw [step_wait hn]
        by_cases c : 0 ≤ lawNum b 0
        · rw [if_pos c] at e
          split at e
          · rename_i q
            cases e
            rw [q, Bool.and_true]
            cases nb : nameB a with
            | true =>
              rw [if_pos ⟨hn, nb, c⟩] at s5
              rw [rt _ s5, if_pos rfl]; rfl
            | false =>
              rw [if_neg (fun z => by rw [nb] at z; cases z.2.1)] at s5
              rw [sCons_nx' s5, sCons_nx' s6, s7, if_neg (by simp)]; rfl
          · cases e
        · rw [if_neg c] at e
          split at e
          · cases e
          · rename_i q
            rw [if_neg (fun z => c z.2.2)] at s5
            rw [sCons_nx' s5, sCons_nx' s6, s7, if_neg (fun z => q (by rw [Bool.and_eq_true] at z; exact z.2))]; rfl
    · rw [if_neg hn]
      rw [if_neg (fun z => hn z.1)] at s5
      rw [sCons_nx' s5, step_send hn]
      have wb : wordB b = (decide (1 ≤ b.length) && decide (b.length ≤ 12) && (!decide (10 ∈ b) && !decide (9 ∈ b))) := by
        unfold wordB
        rw [wrd_good g3.g, decide_eq_false g3.b]; rfl
      rw [wb]
      by_cases c : tx w = Str.ofString "send" ∧ nameB a = true ∧ 1 ≤ b.length ∧ b.length ≤ 12
      · rw [if_pos c] at s6
        rw [rt _ s6, decide_eq_true c.1, c.2.1, decide_eq_true c.2.2.1, decide_eq_true c.2.2.2]
        by_cases d : 10 ∈ b ∨ 9 ∈ b
        · rw [if_pos d, if_neg (by rcases d with d | d <;> simp [d])]; rfl
        · rw [if_neg d, if_pos (by
            rw [decide_eq_false (fun z => d (.inl z)), decide_eq_false (fun z => d (.inr z))]; rfl)]; rfl
      · rw [if_neg c] at s6
        rw [sCons_nx' s6, s7, if_neg (fun z => c (by
          simp only [Bool.and_eq_true, decide_eq_true_eq] at z
          exact ⟨z.1, z.2.1, z.2.2.1.1, z.2.2.1.2⟩))]; rfl
  | w :: a :: b :: c :: r, _, gw, s2 =>
    rw [if_neg (by intro z; cases z)] at s2
    rw [step4, sCons_nx' s2]
    exact du36_no (n := r.length + 4) (by simp) (by omega) (by omega)

/-! ### k04: texts drawn and spoilt -/
def sp1 : En → M Fl := sSet 3 (eBin modD (eVar 1) (eBin addD (eCall lenO (aCons (eVar 0) (aNil))) (eC (.int 1))))
def sp2 : En → M Fl := sSet 4 (eFn (fn_law_sign_by) (aCons (eBin divD (eVar 1) (eC (.int 50))) (aNil)))
def sp3 : En → M Fl := sSet 5 (eO (oSplit (eVar 0) (eC (.str " "))))
def sp4 : En → M Fl := sSet 6 (eBin modD (eVar 2) (eC (.int 10)))
def sp5 : En → M Fl := sIf (tBin ltD (eVar 6) (eC (.int 3))) (sCons (sSet 7 (eSlA (eVar 0) (oPart (some (eBin addD (eVar 3) (eC (.int 1))))) (oPart none))) (sRet (eBin ixD (eO (eLst (aCons (eBin addD (eBin addD (eSlA (eVar 0) (oPart none) (oPart (some (eVar 3)))) (eVar 4)) (eSlA (eVar 0) (oPart (some (eVar 3))) (oPart none))) (aCons (eBin addD (eSlA (eVar 0) (oPart none) (oPart (some (eVar 3)))) (eVar 7)) (aCons (eBin addD (eBin addD (eSlA (eVar 0) (oPart none) (oPart (some (eVar 3)))) (eVar 4)) (eVar 7)) (aNil)))))) (eVar 6)))) (sNil)
def sp6 : En → M Fl := sIf (tBin ltD (eVar 6) (eC (.int 6))) (sRet (eBin ixD (eO (eLst (aCons (eBin addD (eBin addD (eVar 0) (eC (.str " "))) (eBin ixD (eVar 5) (eNegD (eC (.int 1))))) (aCons (eM1 joinO (eC (.str " ")) (eSlA (eVar 5) (oPart none) (oPart (some (eNegD (eC (.int 1))))))) (aCons (eM1 joinO (eC (.str " ")) (eBin addD (eSlA (eVar 5) (oPart none) (oPart (some (eNegD (eC (.int 1)))))) (eO (eLst (aCons (eBin addD (eC (.str "0")) (eBin ixD (eVar 5) (eNegD (eC (.int 1))))) (aNil)))))) (aNil)))))) (eBin subD (eVar 6) (eC (.int 3))))) (sNil)
def sp7 : En → M Fl := sIf (tBin ltD (eVar 6) (eC (.int 9))) (sRet (eBin ixD (eO (eLst (aCons (eM1 joinO (eC (.str " ")) (eBin addD (eSlA (eVar 5) (oPart none) (oPart (some (eNegD (eC (.int 1)))))) (eO (eLst (aCons (eBin addD (eC (.str "+")) (eBin ixD (eVar 5) (eNegD (eC (.int 1))))) (aNil)))))) (aCons (eM1 joinO (eC (.str " ")) (eBin addD (eSlA (eVar 5) (oPart none) (oPart (some (eNegD (eC (.int 1)))))) (eO (eLst (aCons (eC (.str "1001")) (aNil)))))) (aCons (eUp (eVar 0)) (aNil)))))) (eBin subD (eVar 6) (eC (.int 6))))) (sNil)
def sp8 : En → M Fl := sSet 8 (eO (eLst (aCons (eC (.str "")) (aCons (eC (.str " ")) (aCons (eC (.str "work")) (aCons (eC (.str "again ")) (aCons (eC (.str " again")) (aCons (eC (.str "work 0")) (aCons (eC (.str "sleep 0")) (aCons (eC (.str "wait k")) (aCons (eC (.str "receive -1")) (aNil))))))))))))
def sp9 : En → M Fl := sRet (eBin ixD (eBin addD (eVar 8) (eO (eLst (aCons (eC (.str "work 1_0")) (aCons (eC (.str "take 9k")) (aCons (eC (.str "send k")) (aNil))))))) (eBin modD (eBin divD (eVar 2) (eC (.int 10))) (eC (.int 12))))
theorem sp_all : dn_law_spoilt = sCons sp1 (sCons sp2 (sCons sp3 (sCons sp4 (sCons sp5 (sCons sp6 (sCons sp7 (sCons sp8 (sp9)))))))) := rfl
theorem add_tx (a b : List Nat) (h : a.length + b.length ≤ 1000) : addD (.str (tx a)) (.str (tx b)) = some (.str (tx (a ++ b))) := by
  show (if (tx a).length + (tx b).length ≤ lim then some (D.str (tx a ++ tx b)) else none) = _
  rw [if_pos (by rw [tx_len, tx_len]; unfold lim; omega), tx_app]
theorem str_tx (s : String) : (Str.ofString s) = tx (Str.ofString s).cps.toList := (tx_of _).symm
def sgL1 : List Nat := (Str.ofString " !\"#$&'()*+,-./0123456789:;<=>?@ABCDEFGHIJKLMNOPQRSTUVWXYZ[\\]^_`").cps.toList
def sgL2 : List Nat := (Str.ofString "abcdefghijklmnopqrstuvwxyz{|}~\n\t").cps.toList
theorem sgL_good : (sgL1 ++ sgL2).all goodB = true ∧ (sgL1 ++ sgL2).length = 96 := by decide +kernel
theorem sign_by_ok (c : Int) (S : Store) : ∃ x : Nat, fn_law_sign_by [.int c] S = .ok (.f (.str (tx [x]))) S ∧ goodB x = true := by
  obtain ⟨g1, g2⟩ := sgL_good
  obtain ⟨j, hj⟩ : ∃ j : Nat, c % 96 = j := ⟨(c % 96).toNat, by omega⟩
  have lt : j < (sgL1 ++ sgL2).length := by omega
  have ad : addD (.str (Str.ofString " !\"#$&'()*+,-./0123456789:;<=>?@ABCDEFGHIJKLMNOPQRSTUVWXYZ[\\]^_`")) (.str (Str.ofString "abcdefghijklmnopqrstuvwxyz{|}~\n\t")) = some (.str (tx (sgL1 ++ sgL2))) := by
    rw [str_tx " !\"#$&'()*+,-./0123456789:;<=>?@ABCDEFGHIJKLMNOPQRSTUVWXYZ[\\]^_`", str_tx "abcdefghijklmnopqrstuvwxyz{|}~\n\t"]
    exact add_tx sgL1 sgL2 (by rw [← List.length_append]; omega)
  have ix : ixD (.str (tx (sgL1 ++ sgL2))) (.int (c % 96)) = some (.str ⟨#[(sgL1 ++ sgL2)[j]]⟩) := by
    rw [hj]; exact ix_sign (List.getElem?_eq_getElem lt) (by rw [g2]; decide)
  refine ⟨(sgL1 ++ sgL2)[j], ?_, List.all_eq_true.mp g1 _ (List.getElem_mem lt)⟩
  show fn_law_sign_by [.int c] S = Dn.R.ok (Res.f (D.str ⟨#[(sgL1 ++ sgL2)[j]]⟩)) S
  generalize (sgL1 ++ sgL2)[j] = x at *
  generalize tx (sgL1 ++ sgL2) = LL at *
  unfold fn_law_sign_by dn_law_sign_by
  generalize addD = a at *
  clear g1 g2 lt hj
  walk_at "ev*"
/-- a common text of at most n signs -/
def GT (n : Nat) (d : D) : Prop := ∃ l : List Nat, d = .str (tx l) ∧ l.all goodB = true ∧ l.length ≤ n
theorem all_cut {l : List Nat} {lo hi : Option Int} (h : l.all goodB = true) : (cutL l lo hi).all goodB = true := List.all_eq_true.mpr fun c hc => List.all_eq_true.mp h c (cutL_mem hc)
theorem good_app {a b : List Nat} (h : a.all goodB = true) (k : b.all goodB = true) : (a ++ b).all goodB = true := by rw [List.all_append, h, k]; rfl
theorem sp5_ok {l : List Nat} (hg : l.all goodB = true) (hl : l.length ≤ 29) (cell draw place : Int) {x : Nat} (hx : goodB x = true) (WS : List D) {way : Int} (w : way = 0 ∨ way = 1 ∨ way = 2) (e7 e8 : EV) (S : Store) :
    ∃ d, sp5 [.f (.str (tx l)), .f (.int cell), .f (.int draw), .f (.int place), .f (.str (tx [x])), .f (.lst WS), .f (.int way), e7, e8] S = .ok (.rt d) S ∧ GT 60 d := by
  have w1 := cutS_tx l none (some place)
  have w2 := cutS_tx l (some place) none
  have w3 := cutS_tx l (some (place + 1)) none
  have hA : (cutL l none (some place)).length ≤ 29 := Nat.le_trans (cutL_le _ _ _) hl
  have hB : (cutL l (some place) none).length ≤ 29 := Nat.le_trans (cutL_le _ _ _) hl
  have hC : (cutL l (some (place + 1)) none).length ≤ 29 := Nat.le_trans (cutL_le _ _ _) hl
  have gA : (cutL l none (some place)).all goodB = true := all_cut hg
  have gB : (cutL l (some place) none).all goodB = true := all_cut hg
  have gC : (cutL l (some (place + 1)) none).all goodB = true := all_cut hg
  have gx : [x].all goodB = true := by rw [List.all_cons, hx]; rfl
  have ll : ((tx l).length ≤ lim) = True := eq_true (by rw [tx_len]; unfold lim; omega)
  generalize cutL l none (some place) = A at *
  generalize cutL l (some place) none = B at *
  generalize cutL l (some (place + 1)) none = C at *
  have a0 : addD (.int place) (.int 1) = some (.int (place + 1)) := rfl
  have a1 := add_tx A [x] (by simp; omega)
  have a2 := add_tx (A ++ [x]) B (by simp; omega)
  have a3 := add_tx A C (by omega)
  have a4 := add_tx (A ++ [x]) C (by simp; omega)
  have r1 : GT 60 (.str (tx (A ++ [x] ++ B))) := ⟨_, rfl, good_app (good_app gA gx) gB, by simp; omega⟩
  have r2 : GT 60 (.str (tx (A ++ C))) := ⟨_, rfl, good_app gA gC, by simp; omega⟩
  have r3 : GT 60 (.str (tx (A ++ [x] ++ C))) := ⟨_, rfl, good_app (good_app gA gx) gC, by simp; omega⟩
  rcases w with rfl | rfl | rfl
  · refine ⟨_, ?_, r1⟩
    clear r1 r2 r3 hA hB hC gA gB gC gx hg hl
    generalize tx (A ++ [x] ++ B) = X1 at *
    generalize tx (A ++ [x] ++ C) = X2 at *
    generalize tx (A ++ C) = X3 at *
    generalize tx (A ++ [x]) = X4 at *
    generalize tx A = A at *
    generalize tx B = B at *
    generalize tx C = C at *
    generalize tx [x] = X at *
    generalize tx l = T at *
    unfold sp5
    generalize addD = ad at *
    walk_at "ev*"
  · refine ⟨_, ?_, r2⟩
    clear r1 r2 r3 hA hB hC gA gB gC gx hg hl
    generalize tx (A ++ [x] ++ B) = X1 at *
    generalize tx (A ++ [x] ++ C) = X2 at *
    generalize tx (A ++ C) = X3 at *
    generalize tx (A ++ [x]) = X4 at *
    generalize tx A = A at *
    generalize tx B = B at *
    generalize tx C = C at *
    generalize tx [x] = X at *
    generalize tx l = T at *
    unfold sp5
    generalize addD = ad at *
    walk_at "ev*"
  · refine ⟨_, ?_, r3⟩
    clear r1 r2 r3 hA hB hC gA gB gC gx hg hl
    generalize tx (A ++ [x] ++ B) = X1 at *
    generalize tx (A ++ [x] ++ C) = X2 at *
    generalize tx (A ++ C) = X3 at *
    generalize tx (A ++ [x]) = X4 at *
    generalize tx A = A at *
    generalize tx B = B at *
    generalize tx C = C at *
    generalize tx [x] = X at *
    generalize tx l = T at *
    unfold sp5
    generalize addD = ad at *
    walk_at "ev*"
theorem sp5_no {T : Str} (cell draw place : Int) (sg : Str) (WS : List D) {way : Int} (w : ¬ way < 3) (e7 e8 : EV) (S : Store) : sp5 [.f (.str T), .f (.int cell), .f (.int draw), .f (.int place), .f (.str sg), .f (.lst WS), .f (.int way), e7, e8] S = .ok (.nx [.f (.str T), .f (.int cell), .f (.int draw), .f (.int place), .f (.str sg), .f (.lst WS), .f (.int way), e7, e8]) S := by
  unfold sp5
  walk_at "ev*"
theorem sp6_no {T : Str} (cell draw place : Int) (sg : Str) (WS : List D) {way : Int} (w : ¬ way < 6) (e7 e8 : EV) (S : Store) : sp6 [.f (.str T), .f (.int cell), .f (.int draw), .f (.int place), .f (.str sg), .f (.lst WS), .f (.int way), e7, e8] S = .ok (.nx [.f (.str T), .f (.int cell), .f (.int draw), .f (.int place), .f (.str sg), .f (.lst WS), .f (.int way), e7, e8]) S := by
  unfold sp6
  walk_at "ev*"
theorem sp7_no {T : Str} (cell draw place : Int) (sg : Str) (WS : List D) {way : Int} (w : ¬ way < 9) (e7 e8 : EV) (S : Store) : sp7 [.f (.str T), .f (.int cell), .f (.int draw), .f (.int place), .f (.str sg), .f (.lst WS), .f (.int way), e7, e8] S = .ok (.nx [.f (.str T), .f (.int cell), .f (.int draw), .f (.int place), .f (.str sg), .f (.lst WS), .f (.int way), e7, e8]) S := by
  unfold sp7
  walk_at "ev*"
def encT (w : List Nat) : D := .str (tx w)
theorem last_enc (V : List (List Nat)) (z : List Nat) : ixD (.lst ((V ++ [z]).map encT)) (.int (-1)) = some (.str (tx z)) := by
  show atI _ _ = _
  unfold atI
  have e : ixN ((V ++ [z]).map encT).length (-1) = some V.length := by
    unfold ixN
    rw [if_neg (by decide), if_pos (by rw [List.length_map, List.length_append, List.length_singleton]; omega), List.length_map, List.length_append, List.length_singleton]
    congr 1
    omega
  rw [e]
  show ((V ++ [z]).map encT)[V.length]? = _
  rw [List.map_append, List.getElem?_append_right (by rw [List.length_map]; exact Nat.le_refl _), List.length_map, Nat.sub_self]
  rfl
theorem cut_enc (V : List (List Nat)) (z : List Nat) : Dn.cutD ((V ++ [z]).map encT) none (some (-1)) = V.map encT := by
  rw [cutD_L, cutL_last, List.map_append, List.map_singleton, List.dropLast_concat]
theorem addl_enc (V : List (List Nat)) (y : List Nat) (h : V.length ≤ 1000) : addD (.lst (V.map encT)) (.lst [.str (tx y)]) = some (.lst ((V ++ [y]).map encT)) := by
  show (if (V.map encT).length + 1 ≤ lim then some (D.lst (V.map encT ++ [.str (tx y)])) else none) = _
  rw [if_pos (by rw [List.length_map]; unfold lim; omega), List.map_append]
  rfl
theorem joinG {ws : List (List Nat)} (h : ∀ w ∈ ws, w.all goodB = true) {n : Nat} (hs : sumL ws ≤ n) : GT n (.str (tx (TL.joinL [32] ws))) := ⟨_, rfl, joinL_good ws h, Nat.le_trans (joinL_len ws) hs⟩
section
variable {l : List Nat} (hg : l.all goodB = true) (hl : l.length ≤ 29) {V : List (List Nat)} {z : List Nat} (hW : wordsL l = V ++ [z]) (cell draw place : Int) (sg : Str) (S : Store)
include hg hl hW
theorem sp_facts : (∀ w ∈ V, w.all goodB = true) ∧ z.all goodB = true ∧ sumL V + z.length + 1 ≤ 30 := by
  have gw := words_good hg hl
  have su : sumL (wordsL l) = 0 + l.length + 1 := spl_sum l []
  rw [hW] at gw su
  refine ⟨fun w hw => (gw w (List.mem_append_left _ hw)).g, (gw z (by simp)).g, ?_⟩
  rw [sumL_app, show sumL [z] = z.length + 1 by simp [sumL]] at su
  omega
theorem sp6_ok {way : Int} (w : way = 3 ∨ way = 4 ∨ way = 5) (e7 e8 : EV) :
    ∃ d, sp6 [.f (.str (tx l)), .f (.int cell), .f (.int draw), .f (.int place), .f (.str sg), .f (.lst ((V ++ [z]).map encT)), .f (.int way), e7, e8] S = .ok (.rt d) S ∧ GT 60 d := by
  obtain ⟨gV, gz, su⟩ := sp_facts hg hl hW
  have lV := sumL_len V
  have i1 := last_enc V z
  have c1 := cut_enc V z
  have j1 : joinO (Str.ofString " ") (.lst (V.map encT)) = some (.str (tx (TL.joinL [32] V))) := joinO_tx V (by omega)
  have z0 := add_tx [48] z (by simp; omega)
  rw [show tx [48] = Str.ofString "0" by decide] at z0
  have s2 : sumL (V ++ [[48] ++ z]) ≤ 40 := by rw [sumL_app, show sumL [[48] ++ z] = z.length + 2 by simp [sumL]]; omega
  have j2 : joinO (Str.ofString " ") (.lst ((V ++ [[48] ++ z]).map encT)) = some (.str (tx (TL.joinL [32] (V ++ [[48] ++ z])))) := joinO_tx _ (by omega)
  have al := addl_enc V ([48] ++ z) (by omega)
  have b0 := add_tx l [32] (by simp; omega)
  rw [show tx [32] = Str.ofString " " by decide] at b0
  have b1 := add_tx (l ++ [32]) z (by simp; omega)
  have r1 : GT 60 (.str (tx (l ++ [32] ++ z))) := ⟨_, rfl, good_app (good_app hg (by decide)) gz, by simp; omega⟩
  have r2 : GT 60 (.str (tx (TL.joinL [32] V))) := joinG gV (by omega)
  have r3 : GT 60 (.str (tx (TL.joinL [32] (V ++ [[48] ++ z])))) := joinG (fun w hw => by
    rcases List.mem_append.mp hw with hw | hw
    · exact gV w hw
    · rw [List.mem_singleton.mp hw]; exact good_app (by decide) gz) (by omega)
  clear hg hl hW gV gz su lV s2
  generalize (V ++ [[48] ++ z]).map encT = L2 at *
  generalize (V ++ [z]).map encT = L1 at *
  generalize V.map encT = L0 at *
  generalize tx (TL.joinL [32] (V ++ [[48] ++ z])) = X3 at *
  generalize tx (TL.joinL [32] V) = X2 at *
  generalize tx (l ++ [32] ++ z) = X1 at *
  generalize tx (l ++ [32]) = X0 at *
  generalize tx ([48] ++ z) = Z0 at *
  generalize tx z = Z at *
  generalize tx l = T at *
  rcases w with rfl | rfl | rfl
  · refine ⟨_, ?_, r1⟩
    unfold sp6
    generalize addD = ad at *
    generalize joinO = jo at *
    clear r1 r2 r3
    walk_at "ev*"
  · refine ⟨_, ?_, r2⟩
    unfold sp6
    generalize addD = ad at *
    generalize joinO = jo at *
    clear r1 r2 r3
    walk_at "ev*"
  · refine ⟨_, ?_, r3⟩
    unfold sp6
    generalize addD = ad at *
    generalize joinO = jo at *
    clear r1 r2 r3
    walk_at "ev*"
theorem sp7_ok {way : Int} (w : way = 6 ∨ way = 7 ∨ way = 8) (e7 e8 : EV) :
    ∃ d, sp7 [.f (.str (tx l)), .f (.int cell), .f (.int draw), .f (.int place), .f (.str sg), .f (.lst ((V ++ [z]).map encT)), .f (.int way), e7, e8] S = .ok (.rt d) S ∧ GT 60 d := by
  obtain ⟨gV, gz, su⟩ := sp_facts hg hl hW
  have lV := sumL_len V
  have i1 := last_enc V z
  have c1 := cut_enc V z
  have z0 := add_tx [43] z (by simp; omega)
  rw [show tx [43] = Str.ofString "+" by decide] at z0
  have s2 : sumL (V ++ [[43] ++ z]) ≤ 40 := by rw [sumL_app, show sumL [[43] ++ z] = z.length + 2 by simp [sumL]]; omega
  have j2 : joinO (Str.ofString " ") (.lst ((V ++ [[43] ++ z]).map encT)) = some (.str (tx (TL.joinL [32] (V ++ [[43] ++ z])))) := joinO_tx _ (by omega)
  have al := addl_enc V ([43] ++ z) (by omega)
  have s3 : sumL (V ++ [[49, 48, 48, 49]]) ≤ 40 := by rw [sumL_app, show sumL [[49, 48, 48, 49]] = 5 by simp [sumL]]; omega
  have j3 : joinO (Str.ofString " ") (.lst ((V ++ [[49, 48, 48, 49]]).map encT)) = some (.str (tx (TL.joinL [32] (V ++ [[49, 48, 48, 49]])))) := joinO_tx _ (by omega)
  have al3 := addl_enc V [49, 48, 48, 49] (by omega)
  rw [show tx [49, 48, 48, 49] = Str.ofString "1001" by decide] at al3
  have up : Txt.upper (tx l) = tx (l.map PyProof.Rows.up1) := SX.upper_S (a := l) (List.all_eq_true.mpr fun c hc => by
    have := List.all_eq_true.mp hg c hc
    unfold goodB wdB at this
    simp at this ⊢
    omega)
  have ll : ((tx l).length ≤ lim) = True := eq_true (by rw [tx_len]; unfold lim; omega)
  have r1 : GT 60 (.str (tx (TL.joinL [32] (V ++ [[43] ++ z])))) := joinG (fun w hw => by
    rcases List.mem_append.mp hw with hw | hw
    · exact gV w hw
    · rw [List.mem_singleton.mp hw]; exact good_app (by decide) gz) (by omega)
  have r2 : GT 60 (.str (tx (TL.joinL [32] (V ++ [[49, 48, 48, 49]])))) := joinG (fun w hw => by
    rcases List.mem_append.mp hw with hw | hw
    · exact gV w hw
    · rw [List.mem_singleton.mp hw]; decide) (by omega)
  have r3 : GT 60 (.str (tx (l.map PyProof.Rows.up1))) := ⟨_, rfl, List.all_eq_true.mpr fun c hc => by
    obtain ⟨y, hy, rfl⟩ := List.mem_map.mp hc
    have := List.all_eq_true.mp hg y hy
    unfold goodB wdB at this ⊢
    unfold PyProof.Rows.up1
    simp at this ⊢
    split <;> omega, by rw [List.length_map]; omega⟩
  clear hg hl hW gV gz su lV s2 s3
  generalize (V ++ [[43] ++ z]).map encT = L2 at *
  generalize (V ++ [[49, 48, 48, 49]]).map encT = L3 at *
  generalize (V ++ [z]).map encT = L1 at *
  generalize V.map encT = L0 at *
  generalize tx (TL.joinL [32] (V ++ [[43] ++ z])) = X3 at *
  generalize tx (TL.joinL [32] (V ++ [[49, 48, 48, 49]])) = X2 at *
  generalize tx (l.map PyProof.Rows.up1) = X1 at *
  generalize tx ([43] ++ z) = Z0 at *
  generalize tx z = Z at *
  generalize tx l = T at *
  rcases w with rfl | rfl | rfl
  · refine ⟨_, ?_, r1⟩
    unfold sp7
    generalize addD = ad at *
    generalize joinO = jo at *
    clear r1 r2 r3
    walk_at "ev*"
  · refine ⟨_, ?_, r2⟩
    unfold sp7
    generalize addD = ad at *
    generalize joinO = jo at *
    clear r1 r2 r3
    walk_at "ev*"
  · refine ⟨_, ?_, r3⟩
    unfold sp7
    generalize addD = ad at *
    generalize joinO = jo at *
    clear r1 r2 r3
    walk_at "ev*"
end
def odds : List String := ["", " ", "work", "again ", " again", "work 0", "sleep 0", "wait k", "receive -1", "work 1_0", "take 9k", "send k"]
theorem odds_good : (odds.map fun s => (Str.ofString s).cps.toList).all (fun l => l.all goodB && decide (l.length ≤ 60)) = true := by decide +kernel
theorem sp89_ok {T : Str} (cell draw place : Int) (sg : Str) (WS : List D) (way : Int) (e7 e8 : EV) (S : Store) :
    ∃ d, sCons sp8 sp9 [.f (.str T), .f (.int cell), .f (.int draw), .f (.int place), .f (.str sg), .f (.lst WS), .f (.int way), e7, e8] S = .ok (.rt d) S ∧ GT 60 d := by
  obtain ⟨j, hj⟩ : ∃ j : Nat, draw / 10 % 12 = j := ⟨(draw / 10 % 12).toNat, by omega⟩
  have lt : j < odds.length := by show j < 12; omega
  have ix : ixD (.lst (odds.map fun s => .str (Str.ofString s))) (.int (draw / 10 % 12)) = some (.str (Str.ofString odds[j])) := by
    rw [hj]; exact ix_map (List.getElem?_eq_getElem lt)
  have g := List.all_eq_true.mp odds_good _ (List.mem_map.mpr ⟨odds[j], List.getElem_mem lt, rfl⟩)
  rw [Bool.and_eq_true, decide_eq_true_eq] at g
  refine ⟨.str (Str.ofString odds[j]), ?_, ⟨_, by rw [tx_of], g.1, g.2⟩⟩
  have ad : addD (.lst [.str (Str.ofString ""), .str (Str.ofString " "), .str (Str.ofString "work"), .str (Str.ofString "again "), .str (Str.ofString " again"), .str (Str.ofString "work 0"), .str (Str.ofString "sleep 0"), .str (Str.ofString "wait k"), .str (Str.ofString "receive -1")]) (.lst [.str (Str.ofString "work 1_0"), .str (Str.ofString "take 9k"), .str (Str.ofString "send k")]) = some (.lst (odds.map fun s => .str (Str.ofString s))) := rfl
  generalize (odds.map fun s => D.str (Str.ofString s)) = OD at *
  generalize Str.ofString odds[j] = R at *
  clear g lt hj
  unfold sp8 sp9
  generalize addD = a at *
  walk_at "ev*"
theorem sCons_rt {a b : En → M Fl} {env : En} {S S' : Store} {d : D} (h : a env S = .ok (.rt d) S') : sCons a b env S = .ok (.rt d) S' := by
  show (M.bind (a env) _ : M Fl) S = _
  unfold M.bind
  rw [h]; rfl
theorem spoilt_ok {l : List Nat} (hg : l.all goodB = true) (hl : l.length ≤ 29) (cell draw : Int) (S : Store) : ∃ d, fn_law_spoilt [.str (tx l), .int cell, .int draw] S = .ok (.f d) S ∧ GT 60 d := by
  obtain ⟨x, sx, hx⟩ := sign_by_ok (cell / 50) S
  obtain ⟨V, z, hW⟩ : ∃ V z, wordsL l = V ++ [z] := ⟨(wordsL l).dropLast, (wordsL l).getLast (spl_ne l []), (List.dropLast_concat_getLast _).symm⟩
  obtain ⟨place, hp⟩ : ∃ place : Int, cell % ((l.length : Int) + 1) = place := ⟨_, rfl⟩
  obtain ⟨way, hw⟩ : ∃ way : Int, draw % 10 = way := ⟨_, rfl⟩
  have e1 : sp1 [.f (.str (tx l)), .f (.int cell), .f (.int draw), .u, .u, .u, .u, .u, .u] S = .ok (.nx [.f (.str (tx l)), .f (.int cell), .f (.int draw), .f (.int place), .u, .u, .u, .u, .u]) S := by
    have ln := lenO_tx l (by unfold lim; omega)
    have ps : ((0 : Int) < (l.length : Int) + 1) = True := eq_true (by omega)
    rw [← hp]
    clear sx hg hl hW hp hw
    generalize (l.length : Int) = n at *
    generalize tx l = T at *
    unfold sp1
    walk_at "ev*"
  have e2 : sp2 [.f (.str (tx l)), .f (.int cell), .f (.int draw), .f (.int place), .u, .u, .u, .u, .u] S = .ok (.nx [.f (.str (tx l)), .f (.int cell), .f (.int draw), .f (.int place), .f (.str (tx [x])), .u, .u, .u, .u]) S := by
    clear e1 hg hl hW hp hw
    generalize tx [x] = X at *
    generalize tx l = T at *
    unfold sp2
    walk_at "ev*"
  have e3 : sp3 [.f (.str (tx l)), .f (.int cell), .f (.int draw), .f (.int place), .f (.str (tx [x])), .u, .u, .u, .u] S = .ok (.nx [.f (.str (tx l)), .f (.int cell), .f (.int draw), .f (.int place), .f (.str (tx [x])), .f (.lst ((V ++ [z]).map encT)), .u, .u, .u]) S := by
    have os := osplit_ok l (by omega) [.f (.int cell), .f (.int draw), .f (.int place), .f (.str (tx [x])), .u, .u, .u, .u] S
    rw [hW, show ((V ++ [z]).map fun w => D.str (tx w)) = (V ++ [z]).map encT from rfl] at os
    clear e1 e2 hg hl hW hp hw sx
    generalize (V ++ [z]).map encT = L1 at *
    generalize tx [x] = X at *
    generalize tx l = T at *
    unfold sp3
    generalize oSplit (eVar 0) (eC (.str (Str.ofString " "))) = OS at *
    walk_at "ev*"
  have e4 : sp4 [.f (.str (tx l)), .f (.int cell), .f (.int draw), .f (.int place), .f (.str (tx [x])), .f (.lst ((V ++ [z]).map encT)), .u, .u, .u] S = .ok (.nx [.f (.str (tx l)), .f (.int cell), .f (.int draw), .f (.int place), .f (.str (tx [x])), .f (.lst ((V ++ [z]).map encT)), .f (.int way), .u, .u]) S := by
    rw [← hw]
    clear e1 e2 e3 hg hl hW hp hw sx
    generalize (V ++ [z]).map encT = L1 at *
    generalize tx [x] = X at *
    generalize tx l = T at *
    unfold sp4
    walk_at "ev*"
  have fin : ∀ {d : D}, sCons sp5 (sCons sp6 (sCons sp7 (sCons sp8 sp9))) [.f (.str (tx l)), .f (.int cell), .f (.int draw), .f (.int place), .f (.str (tx [x])), .f (.lst ((V ++ [z]).map encT)), .f (.int way), .u, .u] S = .ok (.rt d) S → fn_law_spoilt [.str (tx l), .int cell, .int draw] S = .ok (.f d) S := fun {d} h => by
    have b : sCons sp1 (sCons sp2 (sCons sp3 (sCons sp4 (sCons sp5 (sCons sp6 (sCons sp7 (sCons sp8 sp9))))))) [.f (.str (tx l)), .f (.int cell), .f (.int draw), .u, .u, .u, .u, .u, .u] S = .ok (.rt d) S := by
      rw [sCons_nx' e1, sCons_nx' e2, sCons_nx' e3, sCons_nx' e4, h]
    unfold fn_law_spoilt
    rw [sp_all]
    generalize sCons sp1 (sCons sp2 (sCons sp3 (sCons sp4 (sCons sp5 (sCons sp6 (sCons sp7 (sCons sp8 sp9))))))) = BB at *
    clear e1 e2 e3 e4 h sx
    walk_at "ev*"
  have w10 : way < 10 ∧ 0 ≤ way := by omega
  by_cases c1 : way < 3
  · obtain ⟨d, h, g⟩ := sp5_ok hg hl cell draw place hx ((V ++ [z]).map encT) (way := way) (by omega) .u .u S
    exact ⟨d, fin (sCons_rt h), g⟩
  · have n5 := sp5_no (T := tx l) cell draw place (tx [x]) ((V ++ [z]).map encT) c1 .u .u S
    by_cases c2 : way < 6
    · obtain ⟨d, h, g⟩ := sp6_ok hg hl hW cell draw place (tx [x]) S (way := way) (by omega) .u .u
      exact ⟨d, fin ((sCons_nx' n5).trans (sCons_rt h)), g⟩
    · have n6 := sp6_no (T := tx l) cell draw place (tx [x]) ((V ++ [z]).map encT) c2 .u .u S
      by_cases c3 : way < 9
      · obtain ⟨d, h, g⟩ := sp7_ok hg hl hW cell draw place (tx [x]) S (way := way) (by omega) .u .u
        exact ⟨d, fin ((sCons_nx' n5).trans ((sCons_nx' n6).trans (sCons_rt h))), g⟩
      · have n7 := sp7_no (T := tx l) cell draw place (tx [x]) ((V ++ [z]).map encT) c3 .u .u S
        obtain ⟨d, h, g⟩ := sp89_ok (T := tx l) cell draw place (tx [x]) ((V ++ [z]).map encT) way .u .u S
        exact ⟨d, fin ((sCons_nx' n5).trans ((sCons_nx' n6).trans ((sCons_nx' n7).trans h))), g⟩

/-! ### k04: the law -/
def li1 : En → M Fl := sSet 1 (eBin ixD (eVar 0) (eC (.int 0)))
def li2 : En → M Fl := sFor (iR2 (eC (.int 1)) (eCall lenO (aCons (eVar 0) (aNil)))) (bName 2) (sSet 1 (eBin addD (eBin addD (eVar 1) (eC (.str " "))) (eCall strO (aCons (eBin ixD (eVar 0) (eVar 2)) (aNil)))))
def li3 : En → M Fl := sRet (eVar 1)
theorem li_all : dn_law_line = sCons li1 (sCons li2 (li3)) := rfl
noncomputable def lw1 : En → M Fl := sSet 1 (eFn (fn_law_step_by) (aCons (eFn (fn_law_cell_at) (aCons (eVar 0) (aCons (eC (.int 0)) (aNil)))) (aNil)))
noncomputable def lw2 : En → M Fl := sSet 2 (eFn (fn_shown_step) (aCons (eVar 1) (aNil)))
noncomputable def lw3 : En → M Fl := sIf (tOrD (tNotD (tValD (isiO "str" (eVar 2)))) (tBin neD (eVar 2) (eFn (fn_law_line) (aCons (eVar 1) (aNil))))) (sRet (eC (.bl false))) (sNil)
noncomputable def lw4 : En → M Fl := sIf (tBin eqD (eBin modD (eFn (fn_law_cell_at) (aCons (eVar 0) (aCons (eC (.int 1)) (aNil)))) (eC (.int 2))) (eC (.int 1))) (sSet 2 (eFn (fn_law_spoilt) (aCons (eVar 2) (aCons (eFn (fn_law_cell_at) (aCons (eVar 0) (aCons (eC (.int 2)) (aNil)))) (aCons (eBin divD (eFn (fn_law_cell_at) (aCons (eVar 0) (aCons (eC (.int 1)) (aNil)))) (eC (.int 2))) (aNil)))))) (sNil)
noncomputable def lw5 : En → M Fl := sIf (tOrD (tNotD (tValD (eFn (fn_law_alike) (aCons (eFn (fn_law_told) (aCons (eVar 2) (aNil))) (aCons (eFn (fn_law_due) (aCons (eVar 2) (aNil))) (aNil)))))) (tBin neD (eFn (fn_law_told) (aCons (eC (.str "again")) (aNil))) (eTup (aCons (eC (.str "again")) (aNil))))) (sRet (eC (.bl false))) (sNil)
noncomputable def lw6 : En → M Fl := sRet (eAndD (eFn (fn_law_alike) (aCons (eFn (fn_law_told) (aCons (eVar 2) (aNil))) (aCons (eFn (fn_law_due) (aCons (eVar 2) (aNil))) (aNil)))) (eBin (obl eqD) (eFn (fn_shown_step) (aCons (eVar 1) (aNil))) (eFn (fn_law_line) (aCons (eVar 1) (aNil)))))
theorem lw_all : dn_law = sCons lw1 (sCons lw2 (sCons lw3 (sCons lw4 (sCons lw5 (lw6))))) := rfl
def toldD (o : Option (List D)) : D := match o with
  | some ds => .tup ds
  | none => .str (Str.ofString "refused")
theorem told_ok {l : List Nat} (hg : l.all goodB = true) (hl : l.length ≤ 60) (S : Store) : fn_law_told [.str (tx l)] S = .ok (.f (toldD (stepOf (wordsL l)))) S := by
  have rd := read_ok hg hl S
  unfold resR at rd
  have i1 : isa_HeartError (Str.ofString "NoStep") = some true := rfl
  have i2 : kis_NoTask_NoPlan_Known_Unknown_NoTime_Taken_Free_Knot_Strange_FullBox (Str.ofString "NoStep") = some false := by
    unfold kis_NoTask_NoPlan_Known_Unknown_NoTime_Taken_Free_Knot_Strange_FullBox
    simp [ofString_inj]
  have i3 : kis_NoStep (Str.ofString "NoStep") = some true := by
    unfold kis_NoStep
    simp [ofString_inj]
  have i4 : kis_ValueError (Str.ofString "NoStep") = some true := by
    unfold kis_ValueError
    simp [ofString_inj]
  unfold fn_law_told dn_law_told toldD
  clear hg hl
  generalize tx l = T at *
  cases h : stepOf (wordsL l) with
  | some ds =>
    rw [h] at rd
    dsimp only at rd ⊢
    clear h i1 i2 i3 i4
    walk_at "ev*"
  | none =>
    rw [h] at rd
    dsimp only at rd ⊢
    clear h
    walk_at "ev*"
theorem step_parts {W : List (List Nat)} (gw : ∀ w ∈ W, GW 60 w) {ds : List D} (h : stepOf W = some ds) : (∀ d ∈ ds, Part d) ∧ ds.length ≤ 3 := by
  have key : ∀ {w : List Nat}, w ∈ W → Part (.str (tx w)) := fun hw => part_w (gw _ hw)
  have no : ∀ {b : Bool} {x : List D}, (if b = true then some x else none) = some ds → x = ds := fun {b x} h => by
    cases b with
    | true => exact Option.some.inj h
    | false => cases h
  match W, h with
  | [], h => cases h
  | [w], h =>
    rw [step1] at h
    obtain rfl := no h
    exact ⟨fun d hd => by rw [List.mem_singleton.mp hd]; exact key (by simp), by simp⟩
  | [w, a], h =>
    rw [step2] at h
    split at h
    · split at h
      · obtain rfl := no h
        refine ⟨fun d hd => ?_, by simp⟩
        simp only [List.mem_cons, List.not_mem_nil, or_false] at hd
        rcases hd with rfl | rfl
        · exact key (by simp)
        · exact .inl ⟨_, rfl⟩
      · cases h
    · obtain rfl := no h
      refine ⟨fun d hd => ?_, by simp⟩
      simp only [List.mem_cons, List.not_mem_nil, or_false] at hd
      rcases hd with rfl | rfl
      · exact key (by simp)
      · exact key (by simp)
  | [w, a, b], h =>
    rw [step3] at h
    split at h
    · split at h
      · obtain rfl := no h
        refine ⟨fun d hd => ?_, by simp⟩
        simp only [List.mem_cons, List.not_mem_nil, or_false] at hd
        rcases hd with rfl | rfl | rfl
        · exact key (by simp)
        · exact key (by simp)
        · exact .inl ⟨_, rfl⟩
      · cases h
    · obtain rfl := no h
      refine ⟨fun d hd => ?_, by simp⟩
      simp only [List.mem_cons, List.not_mem_nil, or_false] at hd
      rcases hd with rfl | rfl | rfl
      · exact key (by simp)
      · exact key (by simp)
      · exact key (by simp)
  | w :: a :: b :: c :: r, h => cases h
def isStr : D → Bool
  | .str _ => true
  | _ => false
theorem alike_ok {o : Option (List D)} (hp : ∀ ds, o = some ds → (∀ d ∈ ds, Part d) ∧ ds.length ≤ 3) (S : Store) : fn_law_alike [toldD o, dueD o] S = .ok (.f (.bl true)) S := by
  unfold fn_law_alike dn_law_alike
  cases o with
  | none =>
    unfold toldD dueD
    have e : eqD (.str (Str.ofString "refused")) (.str (Str.ofString "refused")) = some true := by rw [eqD_str, decide_eq_true rfl]
    walk_at "ev*"
  | some ds =>
    obtain ⟨hp, hl⟩ := hp ds rfl
    unfold toldD dueD
    dsimp only
    have ne : neD (.tup ds) (.tup ds) = some false := neD_self (k := 1) (pl_memT fun d hd => (hp d hd).pl)
    have k0 : kitB "tuple" "tuple" = some true := by decide +kernel
    have k1 : kitB "int" "str" = some false := by decide
    have k2 : kitB "str" "str" = some true := by decide
    have lc : lcD (bName 2) (tYesD) (isiO "str" (eVar 2)) [.f (.tup ds), .f (.tup ds), .u] ds [] S = .ok (ds.map fun d => .bl (isStr d)) S := by
      have := lcD_all (b := bName 2) (elt := isiO "str" (eVar 2)) (env := [.f (.tup ds), .f (.tup ds), .u]) (S := S) ds id (fun d => .bl (isStr d)) (by unfold lim; omega) fun d hd => ⟨[.f (.tup ds), .f (.tup ds), .f d], rfl, by
        clear ne k0
        rcases hp d hd with ⟨i, rfl⟩ | ⟨l, rfl, -, -⟩
        · show _ = Dn.R.ok (D.bl false) S
          clear hp hd
          walk_at "ev*"
        · show _ = Dn.R.ok (D.bl true) S
          clear hp hd
          walk_at "ev*"⟩
      rw [List.map_id] at this
      exact this
    have eq : eqD (.lst (ds.map fun d => .bl (isStr d))) (.lst (ds.map fun d => .bl (isStr d))) = some true := eqD_self (k := 1) (pl_map (k := 0) fun _ _ => rfl)
    generalize (ds.map fun d => D.bl (isStr d)) = BL at *
    clear hp hl k1 k2
    have is : ∀ env : En, env[0]? = some (.f (.tup ds)) → isiO "tuple" (eVar 0) env S = .ok (.bl true) S := fun env h => by
      have ev : eVar 0 env S = .ok (.tup ds) S := by unfold eVar; rw [h]; rfl
      unfold isiO M.bind
      rw [ev]
      show M.lift ((kitB "tuple" "tuple").map D.bl) S = _
      rw [k0]; rfl
    have is := is [.f (.tup ds), .f (.tup ds), .u] rfl
    clear k0
    generalize isiO "tuple" (eVar 0) = IT at *
    generalize isiO "str" (eVar 2) = IS at *
    walk_at "ev*"
/-! steps drawn -/
structure Shw (zs : List (D × List Nat)) : Prop where
  l : zs.length ≤ 3
  s : ∀ z ∈ zs, strO [z.1] = some (.str (tx z.2)) ∧ z.2.all goodB = true
  n : sumL (zs.map (·.2)) ≤ 29
  h : ∃ p r, zs = (.str (tx p), p) :: r
theorem shown_ok {zs : List (D × List Nat)} (v : Shw zs) (S : Store) : fn_shown_step [.tup (zs.map (·.1))] S = .ok (.f (.str (tx (TL.joinL [32] (zs.map (·.2)))))) S := by
  have lc : lcD (bName 1) (tYesD) (eCall strO (aCons (eVar 1) (aNil))) [.f (.tup (zs.map (·.1))), .u] (zs.map (·.1)) [] S = .ok (zs.map fun z => .str (tx z.2)) S :=
    lcD_all zs (·.1) (fun z => .str (tx z.2)) (by have := v.l; unfold lim; omega) fun z hz => ⟨[.f (.tup (zs.map (·.1))), .f z.1], rfl, by
      have h := (v.s z hz).1
      clear v hz
      generalize zs.map (·.1) = ZS at *
      generalize tx z.2 = t at *
      generalize z.1 = d at *
      generalize strO = so at *
      walk_at "ev*"⟩
  have jo : joinO (Str.ofString " ") (.lst (zs.map fun z => .str (tx z.2))) = some (.str (tx (TL.joinL [32] (zs.map (·.2))))) := by
    have := joinO_tx (zs.map (·.2)) (by have := v.n; omega)
    rw [List.map_map] at this
    exact this
  clear v
  generalize (zs.map fun z => D.str (tx z.2)) = TS at *
  generalize zs.map (·.1) = ZS at *
  generalize tx (TL.joinL [32] (zs.map (·.2))) = T at *
  unfold fn_shown_step dn_shown_step
  generalize eCall strO (aCons (eVar 1) (aNil)) = EC at *
  generalize joinO = j at *
  walk_at "ev*"
def LB : En → M Fl := (sSet 1 (eBin addD (eBin addD (eVar 1) (eC (.str " "))) (eCall strO (aCons (eBin ixD (eVar 0) (eVar 2)) (aNil)))))
theorem LB_ok {DS : D} {L : List Nat} {k : Int} {d : D} {p : List Nat} (ix : ixD DS (.int k) = some d) (so : strO [d] = some (.str (tx p))) (hl : L.length + p.length ≤ 900) (S : Store) : LB [.f DS, .f (.str (tx L)), .f (.int k)] S = .ok (.nx [.f DS, .f (.str (tx (L ++ [32] ++ p))), .f (.int k)]) S := by
  have a1 := add_tx L [32] (by simp; omega)
  rw [show tx [32] = Str.ofString " " by decide] at a1
  have a2 := add_tx (L ++ [32]) p (by simp; omega)
  generalize tx (L ++ [32] ++ p) = X2 at *
  generalize tx (L ++ [32]) = X1 at *
  generalize tx L = X0 at *
  generalize tx p = P at *
  clear hl
  unfold LB
  generalize addD = ad at *
  generalize strO = st at *
  walk_at "ev*"
theorem line_ok {zs : List (D × List Nat)} (v : Shw zs) (S : Store) : fn_law_line [.tup (zs.map (·.1))] S = .ok (.f (.str (tx (TL.joinL [32] (zs.map (·.2)))))) S := by
  obtain ⟨p, r, hz⟩ := v.h
  have ll := v.l
  have nn := v.n
  have ss := v.s
  have fin : ∀ {ds : List D} {n : Nat} {T : Str} {x : EV}, (1 ≤ n ∧ n ≤ 3) → ds.length = n → ixD (.tup ds) (.int 0) = some (.str (tx p)) → forD LB (bName 2) (rng 1 (n - 1)) [.f (.tup ds), .f (.str (tx p)), .u] S = .ok (.nx [.f (.tup ds), .f (.str T), x]) S → fn_law_line [.tup ds] S = .ok (.f (.str T)) S := fun {ds n T x} hn dl i0 lp => by
    have ln : lenO [.tup ds] = some (.int n) := by rw [← dl]; rfl
    have bb : LB = (sSet 1 (eBin addD (eBin addD (eVar 1) (eC (.str " "))) (eCall strO (aCons (eBin ixD (eVar 0) (eVar 2)) (aNil))))) := rfl
    have tn : ((n : Int) - 1).toNat = n - 1 := by omega
    have q1 : ((n : Int) ≤ 1000000) = True := eq_true (by omega)
    have q2 : (-1000000 ≤ (n : Int)) = True := eq_true (by omega)
    unfold fn_law_line
    rw [li_all]
    unfold li1 li2 li3
    rw [← bb]
    clear bb dl hn v ll nn ss hz
    generalize tx p = P at *
    generalize n - 1 = n1 at *
    generalize (n : Int) = ni at *
    generalize LB = lb at *
    walk_at "ev*"
  match r, hz with
  | [], hz =>
    rw [hz]
    exact fin (n := 1) ⟨by decide, by decide⟩ rfl (it0 _ _) rfl
  | [z1], hz =>
    rw [hz] at nn ss ⊢
    have s1 := (ss z1 (by simp)).1
    have sm : p.length + 1 + (z1.2.length + 1 + 0) ≤ 29 := by simpa [sumL] using nn
    have b1 := LB_ok (DS := .tup [.str (tx p), z1.1]) (L := p) (k := 1) (it1 _ _ _) s1 (by omega) S
    refine fin (n := 2) ⟨by decide, by decide⟩ rfl (it0 _ _) (x := .f (.int 1)) ?_
    show forD LB (bName 2) [.int 1] [.f (.tup [.str (tx p), z1.1]), .f (.str (tx p)), .u] S = _
    rw [forD_nx (show bName 2 (.int 1) _ = some [.f (.tup [.str (tx p), z1.1]), .f (.str (tx p)), .f (.int 1)] from rfl) b1]
    show Dn.R.ok (Fl.nx [.f (.tup [.str (tx p), z1.1]), .f (.str (tx (p ++ [32] ++ z1.2))), .f (.int 1)]) S = _
    rw [List.append_assoc]
    rfl
  | [z1, z2], hz =>
    rw [hz] at nn ss ⊢
    have s1 := (ss z1 (by simp)).1
    have s2 := (ss z2 (by simp)).1
    have sm : p.length + 1 + (z1.2.length + 1 + (z2.2.length + 1 + 0)) ≤ 29 := by simpa [sumL] using nn
    have b1 := LB_ok (DS := .tup [.str (tx p), z1.1, z2.1]) (L := p) (k := 1) (it1 _ _ _) s1 (by omega) S
    have b2 := LB_ok (DS := .tup [.str (tx p), z1.1, z2.1]) (L := p ++ [32] ++ z1.2) (k := 2) (it2 _ _ _ _) s2 (by simp; omega) S
    refine fin (n := 3) ⟨by decide, by decide⟩ rfl (it0 _ _) (x := .f (.int 2)) ?_
    show forD LB (bName 2) [.int 1, .int 2] [.f (.tup [.str (tx p), z1.1, z2.1]), .f (.str (tx p)), .u] S = _
    rw [forD_nx (show bName 2 (.int 1) _ = some [.f (.tup [.str (tx p), z1.1, z2.1]), .f (.str (tx p)), .f (.int 1)] from rfl) b1, forD_nx (show bName 2 (.int 2) _ = some [.f (.tup [.str (tx p), z1.1, z2.1]), .f (.str (tx (p ++ [32] ++ z1.2))), .f (.int 2)] from rfl) b2]
    show Dn.R.ok (Fl.nx [.f (.tup [.str (tx p), z1.1, z2.1]), .f (.str (tx (p ++ [32] ++ z1.2 ++ [32] ++ z2.2))), .f (.int 2)]) S = _
    rw [show p ++ [32] ++ z1.2 ++ [32] ++ z2.2 = p ++ ([32] ++ (z1.2 ++ ([32] ++ z2.2))) by simp]
    rfl
  | _ :: _ :: _ :: _, hz => rw [hz] at ll; simp at ll
theorem numL_good : ∀ n : Nat, n < 1002 → (TL.numL n).all goodB = true ∧ (TL.numL n).length ≤ 4 := by decide +kernel
theorem str_num {n : Nat} (h : n < 1002) : strO [.int n] = some (.str (tx (TL.numL n))) := by
  have e : (Str.ofString (toString ((n : Nat) : Int))) = tx (TL.numL n) := SX.num_S n
  show (if ((n : Int)).natAbs.log2 < 1920 then some (D.str (Str.ofString (toString (n : Int)))) else none) = _
  rw [if_pos, e]
  have l := Nat.log2_le_self n
  show n.log2 < 1920
  omega
theorem name_by_ok (c : Int) (S : Store) : ∃ p, fn_law_name_by [.int c] S = .ok (.f (.str (tx p))) S ∧ p.all goodB = true ∧ p.length ≤ 8 := by
  obtain ⟨size, hs, s1, s2⟩ : ∃ size : Int, 1 + c % 8 = size ∧ 1 ≤ size ∧ size ≤ 8 := ⟨_, rfl, by omega, by omega⟩
  obtain ⟨place, hp, p1, p2⟩ : ∃ place : Int, c / 8 % size = place ∧ 0 ≤ place ∧ place < size := ⟨_, rfl, Int.emod_nonneg _ (by omega), Int.emod_lt_of_pos _ (by omega)⟩
  obtain ⟨c1, h1, g1, -⟩ := lit_at (s := ("abcdefghijklmnopqrstuvwxyz0123456789" : Str)) _ rfl goodB (by decide) (by decide) (i := c / 64 % 36) (by omega) (by show (_ : Int) % 36 < 36; omega)
  obtain ⟨c2, h2, g2, -⟩ := lit_at (s := ("abcdefghijklmnopqrstuvwxyz0123456789" : Str)) _ rfl goodB (by decide) (by decide) (i := c / 64 % 26) (by omega) (by show (_ : Int) % 26 < 36; omega)
  have mk : ∀ n : Int, 0 ≤ n → n ≤ 8 → mulD (.str (Str.ofString "k")) (.int n) = some (.str (tx (List.replicate n.toNat 107))) := fun n h0 h8 => by
    have e : (Str.ofString "k") = ⟨#[107]⟩ := by decide
    show (if (Str.ofString "k").length ≤ 16 ∧ -1000000 ≤ n ∧ n ≤ 1000000 then some (D.str (Txt.mul (Str.ofString "k") n)) else none) = _
    rw [if_pos ⟨by rw [e]; decide, by omega, by omega⟩, e, mul_one]
  have m1 := mk place p1 (by omega)
  have m2 := mk (size - 1 - place) (by omega) (by omega)
  obtain ⟨A, hA⟩ : ∃ A, List.replicate place.toNat 107 = A := ⟨_, rfl⟩
  obtain ⟨B, hB⟩ : ∃ B, List.replicate (size - 1 - place).toNat 107 = B := ⟨_, rfl⟩
  have lA : A.length = place.toNat := by rw [← hA, List.length_replicate]
  have lB : B.length = (size - 1 - place).toNat := by rw [← hB, List.length_replicate]
  have gA : A.all goodB = true := by
    rw [← hA, List.all_eq_true]; intro x hx; rw [List.eq_of_mem_replicate hx]; decide
  have gB : B.all goodB = true := by
    rw [← hB, List.all_eq_true]; intro x hx; rw [List.eq_of_mem_replicate hx]; decide
  rw [hA] at m1
  rw [hB] at m2
  have sp : ((0 : Int) < size) = True := eq_true (by omega)
  have res : ∀ x : Nat, goodB x = true → addD (.str (tx A)) (.str ⟨#[x]⟩) = some (.str (tx (A ++ [x]))) ∧ addD (.str (tx (A ++ [x]))) (.str (tx B)) = some (.str (tx (A ++ [x] ++ B))) ∧ (A ++ [x] ++ B).all goodB = true ∧ (A ++ [x] ++ B).length ≤ 8 := fun x hx =>
    ⟨add_tx A [x] (by simp; omega), add_tx (A ++ [x]) B (by simp; omega), good_app (good_app gA (by rw [List.all_cons, hx]; rfl)) gB, by simp; omega⟩
  have i1 : addD (.int 1) (.int (c % 8)) = some (.int size) := by rw [← hs]; rfl
  have i2 : modD (.int (c / 8)) (.int size) = some (.int place) := by
    show (if 0 < size then some (D.int (c / 8 % size)) else none) = _
    rw [if_pos (by omega), hp]
  have i3 : subD (.int size) (.int 1) = some (.int (size - 1)) := rfl
  have i4 : subD (.int (size - 1)) (.int place) = some (.int (size - 1 - place)) := rfl
  have j1 : modD (.int c) (.int 8) = some (.int (c % 8)) := rfl
  have j2 : modD (.int (c / 64)) (.int 36) = some (.int (c / 64 % 36)) := rfl
  have j3 : modD (.int (c / 64)) (.int 26) = some (.int (c / 64 % 26)) := rfl
  have d1 : divD (.int c) (.int 8) = some (.int (c / 8)) := rfl
  have d2 : divD (.int c) (.int 64) = some (.int (c / 64)) := rfl
  by_cases c0 : place = 0
  · obtain ⟨a1, a2, g, n⟩ := res c2 g2
    refine ⟨A ++ [c2] ++ B, ?_, g, n⟩
    subst c0
    clear res gA gB lA lB hA hB mk sp s1 s2 p1 p2 hs hp g n g1 g2
    generalize tx (A ++ [c2] ++ B) = X2 at *
    generalize tx (A ++ [c2]) = X1 at *
    generalize tx A = TA at *
    generalize tx B = TB at *
    unfold fn_law_name_by dn_law_name_by
    generalize addD = ad at *
    generalize mulD = mu at *
    generalize modD = mo at *
    generalize subD = su at *
    generalize divD = di at *
    walk_at "ev*"
  · obtain ⟨a1, a2, g, n⟩ := res c1 g1
    refine ⟨A ++ [c1] ++ B, ?_, g, n⟩
    have c0 := eq_false c0
    clear res gA gB lA lB hA hB mk sp s1 s2 p1 p2 hs hp g n g1 g2
    generalize tx (A ++ [c1] ++ B) = X2 at *
    generalize tx (A ++ [c1]) = X1 at *
    generalize tx A = TA at *
    generalize tx B = TB at *
    unfold fn_law_name_by dn_law_name_by
    generalize addD = ad at *
    generalize mulD = mu at *
    generalize modD = mo at *
    generalize subD = su at *
    generalize divD = di at *
    walk_at "ev*"
def wdL1 : List Nat := (Str.ofString "!\"#$&'()*+,-./0123456789:;<=>?@ABCDEFGHIJKLMNOPQRSTUVWXYZ[\\]^_`").cps.toList
def wdL2 : List Nat := (Str.ofString "abcdefghijklmnopqrstuvwxyz{|}~").cps.toList
theorem wdL_good : (wdL1 ++ wdL2).all goodB = true ∧ (wdL1 ++ wdL2).length = 93 := by decide +kernel
theorem word_by_ok (c : Int) (S : Store) : ∃ p, fn_law_word_by [.int c] S = .ok (.f (.str (tx p))) S ∧ p.all goodB = true ∧ p.length ≤ 12 := by
  obtain ⟨size, hs, s1, s2⟩ : ∃ size : Int, 1 + c % 12 = size ∧ 1 ≤ size ∧ size ≤ 12 := ⟨_, rfl, by omega, by omega⟩
  obtain ⟨place, hp, p1, p2⟩ : ∃ place : Int, c / 12 % size = place ∧ 0 ≤ place ∧ place < size := ⟨_, rfl, Int.emod_nonneg _ (by omega), Int.emod_lt_of_pos _ (by omega)⟩
  obtain ⟨w1, w2⟩ := wdL_good
  obtain ⟨j, hj⟩ : ∃ j : Nat, c / 144 % 93 = j := ⟨(c / 144 % 93).toNat, by omega⟩
  have lt : j < (wdL1 ++ wdL2).length := by omega
  have a0 : addD (.str (Str.ofString "!\"#$&'()*+,-./0123456789:;<=>?@ABCDEFGHIJKLMNOPQRSTUVWXYZ[\\]^_`")) (.str (Str.ofString "abcdefghijklmnopqrstuvwxyz{|}~")) = some (.str (tx (wdL1 ++ wdL2))) := by
    rw [str_tx "!\"#$&'()*+,-./0123456789:;<=>?@ABCDEFGHIJKLMNOPQRSTUVWXYZ[\\]^_`", str_tx "abcdefghijklmnopqrstuvwxyz{|}~"]
    exact add_tx wdL1 wdL2 (by rw [← List.length_append]; omega)
  have ix : ixD (.str (tx (wdL1 ++ wdL2))) (.int (c / 144 % 93)) = some (.str ⟨#[(wdL1 ++ wdL2)[j]]⟩) := by
    rw [hj]; exact ix_sign (List.getElem?_eq_getElem lt) (by rw [w2]; decide)
  have gx := List.all_eq_true.mp w1 _ (List.getElem_mem lt)
  generalize (wdL1 ++ wdL2)[j] = x at *
  have mk : ∀ n : Int, 0 ≤ n → n ≤ 12 → mulD (.str (Str.ofString "w")) (.int n) = some (.str (tx (List.replicate n.toNat 119))) := fun n h0 h8 => by
    have e : (Str.ofString "w") = ⟨#[119]⟩ := by decide
    show (if (Str.ofString "w").length ≤ 16 ∧ -1000000 ≤ n ∧ n ≤ 1000000 then some (D.str (Txt.mul (Str.ofString "w") n)) else none) = _
    rw [if_pos ⟨by rw [e]; decide, by omega, by omega⟩, e, mul_one]
  have m1 := mk place p1 (by omega)
  have m2 := mk (size - 1 - place) (by omega) (by omega)
  obtain ⟨A, hA⟩ : ∃ A, List.replicate place.toNat 119 = A := ⟨_, rfl⟩
  obtain ⟨B, hB⟩ : ∃ B, List.replicate (size - 1 - place).toNat 119 = B := ⟨_, rfl⟩
  have lA : A.length = place.toNat := by rw [← hA, List.length_replicate]
  have lB : B.length = (size - 1 - place).toNat := by rw [← hB, List.length_replicate]
  have gA : A.all goodB = true := by
    rw [← hA, List.all_eq_true]; intro x hx; rw [List.eq_of_mem_replicate hx]; decide
  have gB : B.all goodB = true := by
    rw [← hB, List.all_eq_true]; intro x hx; rw [List.eq_of_mem_replicate hx]; decide
  rw [hA] at m1
  rw [hB] at m2
  have a1 : addD (.str (tx A)) (.str ⟨#[x]⟩) = some (.str (tx (A ++ [x]))) := add_tx A [x] (by simp; omega)
  have a2 := add_tx (A ++ [x]) B (by simp; omega)
  refine ⟨A ++ [x] ++ B, ?_, good_app (good_app gA (by rw [List.all_cons, gx]; rfl)) gB, by simp; omega⟩
  have i1 : addD (.int 1) (.int (c % 12)) = some (.int size) := by rw [← hs]; rfl
  have i2 : modD (.int (c / 12)) (.int size) = some (.int place) := by
    show (if 0 < size then some (D.int (c / 12 % size)) else none) = _
    rw [if_pos (by omega), hp]
  have i3 : subD (.int size) (.int 1) = some (.int (size - 1)) := rfl
  have i4 : subD (.int (size - 1)) (.int place) = some (.int (size - 1 - place)) := rfl
  have j1 : modD (.int c) (.int 12) = some (.int (c % 12)) := rfl
  have j2 : modD (.int (c / 144)) (.int 93) = some (.int (c / 144 % 93)) := rfl
  have d1 : divD (.int c) (.int 12) = some (.int (c / 12)) := rfl
  have d2 : divD (.int c) (.int 144) = some (.int (c / 144)) := rfl
  clear gA gB lA lB hA hB mk s1 s2 p1 p2 hs hp w1 w2 hj lt gx
  generalize tx (wdL1 ++ wdL2) = LL at *
  generalize tx (A ++ [x] ++ B) = X2 at *
  generalize tx (A ++ [x]) = X1 at *
  generalize tx A = TA at *
  generalize tx B = TB at *
  unfold fn_law_word_by dn_law_word_by
  generalize addD = ad at *
  generalize mulD = mu at *
  generalize modD = mo at *
  generalize subD = su at *
  generalize divD = di at *
  walk_at "ev*"

theorem shw_of {zs : List (D × List Nat)} (l : zs.length ≤ 3) (s : ∀ z ∈ zs, strO [z.1] = some (.str (tx z.2)) ∧ z.2.all goodB = true) (n : sumL (zs.map (·.2)) ≤ 29) (h : ∃ p r, zs = (.str (tx p), p) :: r) : Shw zs := ⟨l, s, n, h⟩
theorem str_str (s : Str) : strO [.str s] = some (.str s) := rfl
/-- a word and a number, a word and a name .. -/
theorem shwN {p : List Nat} (gp : p.all goodB = true) (lp : p.length ≤ 8) {n : Nat} (hn : n < 1002) : Shw [(.str (tx p), p), (.int n, TL.numL n)] := by
  obtain ⟨g1, g2⟩ := numL_good n hn
  refine ⟨by simp, fun z hz => ?_, by simp [sumL]; omega, p, _, rfl⟩
  simp only [List.mem_cons, List.not_mem_nil, or_false] at hz
  rcases hz with rfl | rfl
  · exact ⟨rfl, gp⟩
  · exact ⟨str_num hn, g1⟩
theorem shwS {p q : List Nat} (gp : p.all goodB = true) (lp : p.length ≤ 8) (gq : q.all goodB = true) (lq : q.length ≤ 8) : Shw [(.str (tx p), p), (.str (tx q), q)] := by
  refine ⟨by simp, fun z hz => ?_, by simp [sumL]; omega, p, _, rfl⟩
  simp only [List.mem_cons, List.not_mem_nil, or_false] at hz
  rcases hz with rfl | rfl
  · exact ⟨rfl, gp⟩
  · exact ⟨rfl, gq⟩
theorem shwSN {p q : List Nat} (gp : p.all goodB = true) (lp : p.length ≤ 8) (gq : q.all goodB = true) (lq : q.length ≤ 8) {n : Nat} (hn : n < 1002) : Shw [(.str (tx p), p), (.str (tx q), q), (.int n, TL.numL n)] := by
  obtain ⟨g1, g2⟩ := numL_good n hn
  refine ⟨by simp, fun z hz => ?_, by simp [sumL]; omega, p, _, rfl⟩
  simp only [List.mem_cons, List.not_mem_nil, or_false] at hz
  rcases hz with rfl | rfl | rfl
  · exact ⟨rfl, gp⟩
  · exact ⟨rfl, gq⟩
  · exact ⟨str_num hn, g1⟩
theorem shwSS {p q r : List Nat} (gp : p.all goodB = true) (lp : p.length ≤ 4) (gq : q.all goodB = true) (lq : q.length ≤ 8) (gr : r.all goodB = true) (lr : r.length ≤ 12) : Shw [(.str (tx p), p), (.str (tx q), q), (.str (tx r), r)] := by
  refine ⟨by simp, fun z hz => ?_, by simp [sumL]; omega, p, _, rfl⟩
  simp only [List.mem_cons, List.not_mem_nil, or_false] at hz
  rcases hz with rfl | rfl | rfl
  · exact ⟨rfl, gp⟩
  · exact ⟨rfl, gq⟩
  · exact ⟨rfl, gr⟩
theorem shw1 {p : List Nat} (gp : p.all goodB = true) (lp : p.length ≤ 8) : Shw [(.str (tx p), p)] := by
  refine ⟨by simp, fun z hz => ?_, by simp [sumL]; omega, p, _, rfl⟩
  rw [List.mem_singleton.mp hz]
  exact ⟨rfl, gp⟩
theorem kw (s : String) (l : List Nat) (h : (Str.ofString s) = tx l) : D.str (tx l) = .str (Str.ofString s) := by rw [h]
theorem step_by_ok (c : Int) (S : Store) : ∃ zs, fn_law_step_by [.int c] S = .ok (.f (.tup (zs.map (·.1)))) S ∧ Shw zs := by
  obtain ⟨more, hm⟩ : ∃ more, c / 9 = more := ⟨_, rfl⟩
  obtain ⟨way, hw, w1, w2⟩ : ∃ way, c % 9 = way ∧ 0 ≤ way ∧ way < 9 := ⟨_, rfl, by omega, by omega⟩
  obtain ⟨k1, hk1, k1l⟩ : ∃ k : Nat, more % 1000 = k ∧ k < 1000 := ⟨(more % 1000).toNat, by omega, by omega⟩
  obtain ⟨k2, hk2, k2l⟩ : ∃ k : Nat, more % 1001 = k ∧ k < 1001 := ⟨(more % 1001).toNat, by omega, by omega⟩
  have dn : ∀ {d : D}, sCons (sSet 1 (eBin modD (eVar 0) (eC (.int 9)))) (sCons (sSet 2 (eBin divD (eVar 0) (eC (.int 9)))) sNil) [.f (.int c), .u, .u] S = .ok (.nx [.f (.int c), .f (.int way), .f (.int more)]) S := fun {d} => by
    rw [← hm, ← hw]
    clear hm hw hk1 hk2
    walk_at "ev*"
  obtain ⟨n1, e1, g1, l1⟩ := name_by_ok (more / 1001) S
  obtain ⟨n2, e2, g2, l2⟩ := name_by_ok (more % 2304) S
  obtain ⟨n3, e3, g3, l3⟩ := word_by_ok (more / 2304) S
  obtain ⟨n4, e4, g4, l4⟩ := name_by_ok (more / 2) S
  have q1 : (1 : Int) + (k1 : Int) = ((1 + k1 : Nat) : Int) := by omega
  have a9 : modD (.int c) (.int 9) = some (.int way) := by rw [← hw]; rfl
  have b9 : divD (.int c) (.int 9) = some (.int more) := by rw [← hm]; rfl
  have a1000 : modD (.int more) (.int 1000) = some (.int k1) := by rw [← hk1]; rfl
  have a1001 : modD (.int more) (.int 1001) = some (.int k2) := by rw [← hk2]; rfl
  have b1001 : divD (.int more) (.int 1001) = some (.int (more / 1001)) := rfl
  have b2304 : divD (.int more) (.int 2304) = some (.int (more / 2304)) := rfl
  have a2304 : modD (.int more) (.int 2304) = some (.int (more % 2304)) := rfl
  have b2 : divD (.int more) (.int 2) = some (.int (more / 2)) := rfl
  have ad : addD (.int 1) (.int k1) = some (.int ((1 + k1 : Nat) : Int)) := by rw [← q1]; rfl
  clear hm hw hk1 hk2 dn q1
  by_cases c1 : way < 2
  · refine ⟨_, ?_, shwN (p := [119, 111, 114, 107]) (by decide) (by decide) (n := 1 + k1) (by omega)⟩
    show _ = Dn.R.ok (Res.f (D.tup [D.str (tx [119, 111, 114, 107]), D.int ((1 + k1 : Nat) : Int)])) S
    rw [kw "work" [119, 111, 114, 107] (by decide)]
    have c1 := eq_true c1
    clear w1 w2 g1 g2 g3 g4 l1 l2 l3 l4 e1 e2 e3 e4
    generalize ((1 + k1 : Nat) : Int) = kk at *
    generalize (k1 : Int) = k1' at *
    unfold fn_law_step_by dn_law_step_by
    generalize addD = ad' at *
    generalize modD = mo at *
    generalize divD = di at *
    walk_at "ev*"
  · by_cases c2 : way = 2
    · refine ⟨_, ?_, shwN (p := [115, 108, 101, 101, 112]) (by decide) (by decide) (n := 1 + k1) (by omega)⟩
      show _ = Dn.R.ok (Res.f (D.tup [D.str (tx [115, 108, 101, 101, 112]), D.int ((1 + k1 : Nat) : Int)])) S
      rw [kw "sleep" [115, 108, 101, 101, 112] (by decide)]
      subst c2
      clear w1 w2 g1 g2 g3 g4 l1 l2 l3 l4 e1 e2 e3 e4 c1
      generalize ((1 + k1 : Nat) : Int) = kk at *
      generalize (k1 : Int) = k1' at *
      unfold fn_law_step_by dn_law_step_by
      generalize addD = ad' at *
      generalize modD = mo at *
      generalize divD = di at *
      walk_at "ev*"
    · by_cases c3 : way = 3
      · refine ⟨_, ?_, shwSN (p := [119, 97, 105, 116]) (by decide) (by decide) g1 l1 (n := k2) (by omega)⟩
        show _ = Dn.R.ok (Res.f (D.tup [D.str (tx [119, 97, 105, 116]), D.str (tx n1), D.int (k2 : Int)])) S
        rw [kw "wait" [119, 97, 105, 116] (by decide)]
        subst c3
        clear w1 w2 g1 g2 g3 g4 l1 l2 l3 l4 e2 e3 e4 c1 c2
        generalize (k2 : Int) = k2' at *
        generalize tx n1 = N1 at *
        unfold fn_law_step_by dn_law_step_by
        generalize addD = ad' at *
        generalize modD = mo at *
        generalize divD = di at *
        walk_at "ev*"
      · by_cases c4 : way = 4
        · refine ⟨_, ?_, shwSS (p := [115, 101, 110, 100]) (by decide) (by decide) g2 l2 g3 l3⟩
          show _ = Dn.R.ok (Res.f (D.tup [D.str (tx [115, 101, 110, 100]), D.str (tx n2), D.str (tx n3)])) S
          rw [kw "send" [115, 101, 110, 100] (by decide)]
          subst c4
          clear w1 w2 g1 g2 g3 g4 l1 l2 l3 l4 e1 e4 c1 c2 c3
          generalize tx n2 = N2 at *
          generalize tx n3 = N3 at *
          unfold fn_law_step_by dn_law_step_by
          generalize addD = ad' at *
          generalize modD = mo at *
          generalize divD = di at *
          walk_at "ev*"
        · by_cases c5 : way = 5
          · refine ⟨_, ?_, shwN (p := [114, 101, 99, 101, 105, 118, 101]) (by decide) (by decide) (n := k2) (by omega)⟩
            show _ = Dn.R.ok (Res.f (D.tup [D.str (tx [114, 101, 99, 101, 105, 118, 101]), D.int (k2 : Int)])) S
            rw [kw "receive" [114, 101, 99, 101, 105, 118, 101] (by decide)]
            subst c5
            clear w1 w2 g1 g2 g3 g4 l1 l2 l3 l4 e1 e2 e3 e4 c1 c2 c3 c4
            generalize (k2 : Int) = k2' at *
            unfold fn_law_step_by dn_law_step_by
            generalize addD = ad' at *
            generalize modD = mo at *
            generalize divD = di at *
            walk_at "ev*"
          · by_cases c6 : way = 6
            · refine ⟨_, ?_, shw1 (p := [97, 103, 97, 105, 110]) (by decide) (by decide)⟩
              show _ = Dn.R.ok (Res.f (D.tup [D.str (tx [97, 103, 97, 105, 110])])) S
              rw [kw "again" [97, 103, 97, 105, 110] (by decide)]
              subst c6
              clear w1 w2 g1 g2 g3 g4 l1 l2 l3 l4 e1 e2 e3 e4 c1 c2 c3 c4 c5
              unfold fn_law_step_by dn_law_step_by
              generalize addD = ad' at *
              generalize modD = mo at *
              generalize divD = di at *
              walk_at "ev*"
            · have key : ∀ (p : List Nat) (w : String), (Str.ofString w) = tx p → p.all goodB = true → p.length ≤ 8 → eBin ixD (eBin ixD (eO (eLst (aCons (eO (eLst (aCons (eC (.str (Str.ofString "take"))) (aCons (eC (.str (Str.ofString "give"))) (aNil))))) (aCons (eO (eLst (aCons (eC (.str (Str.ofString "ring"))) (aCons (eC (.str (Str.ofString "take"))) (aNil))))) (aNil))))) (eBin subD (eVar 1) (eC (.int 7)))) (eBin modD (eVar 2) (eC (.int 2))) [.f (.int c), .f (.int way), .f (.int more)] S = .ok (.str (Str.ofString w)) S → ∃ zs, fn_law_step_by [.int c] S = .ok (.f (.tup (zs.map (·.1)))) S ∧ Shw zs := fun p w e g l hx => by
                refine ⟨_, ?_, shwS g l g4 l4⟩
                show _ = Dn.R.ok (Res.f (D.tup [D.str (tx p), D.str (tx n4)])) S
                rw [← e]
                have c1 := eq_false c1
                have c2 := eq_false c2
                have c3 := eq_false c3
                have c4 := eq_false c4
                have c5 := eq_false c5
                have c6 := eq_false c6
                clear w1 w2 g1 g2 g3 g4 l1 l2 l3 l4 e1 e2 e3 e g l
                generalize tx n4 = N4 at *
                unfold fn_law_step_by dn_law_step_by
                generalize eBin ixD (eBin ixD (eO (eLst (aCons (eO (eLst (aCons (eC (.str (Str.ofString "take"))) (aCons (eC (.str (Str.ofString "give"))) (aNil))))) (aCons (eO (eLst (aCons (eC (.str (Str.ofString "ring"))) (aCons (eC (.str (Str.ofString "take"))) (aNil))))) (aNil))))) (eBin subD (eVar 1) (eC (.int 7)))) (eBin modD (eVar 2) (eC (.int 2))) = IX at *
                generalize addD = ad' at *
                generalize modD = mo at *
                generalize divD = di at *
                walk_at "ev*"
              obtain ⟨b, hb⟩ : ∃ b, more % 2 = b := ⟨_, rfl⟩
              have m2 : modD (.int more) (.int 2) = some (.int b) := by rw [← hb]; rfl
              have bb : b = 0 ∨ b = 1 := by omega
              clear hb
              have s7 : (way = 7 ∨ way = 8) := by omega
              rcases s7 with rfl | rfl <;> rcases bb with rfl | rfl
              · exact key [116, 97, 107, 101] "take" (by decide) (by decide) (by decide) (by
                  clear key e1 e2 e3 e4 a9 b9 a1000 a1001 b1001 b2304 a2304 b2 ad g1 g2 g3 g4
                  generalize modD = mo at *
                  walk_at "ev*")
              · exact key [103, 105, 118, 101] "give" (by decide) (by decide) (by decide) (by
                  clear key e1 e2 e3 e4 a9 b9 a1000 a1001 b1001 b2304 a2304 b2 ad g1 g2 g3 g4
                  generalize modD = mo at *
                  walk_at "ev*")
              · exact key [114, 105, 110, 103] "ring" (by decide) (by decide) (by decide) (by
                  clear key e1 e2 e3 e4 a9 b9 a1000 a1001 b1001 b2304 a2304 b2 ad g1 g2 g3 g4
                  generalize modD = mo at *
                  walk_at "ev*")
              · exact key [116, 97, 107, 101] "take" (by decide) (by decide) (by decide) (by
                  clear key e1 e2 e3 e4 a9 b9 a1000 a1001 b1001 b2304 a2304 b2 ad g1 g2 g3 g4
                  generalize modD = mo at *
                  walk_at "ev*")
theorem again_told (S : Store) : fn_law_told [.str (Str.ofString "again")] S = .ok (.f (.tup [.str (Str.ofString "again")])) S := by
  have e : (Str.ofString "again") = tx [97, 103, 97, 105, 110] := by decide
  have w : wordsL [97, 103, 97, 105, 110] = [[97, 103, 97, 105, 110]] := by decide +kernel
  have t := told_ok (l := [97, 103, 97, 105, 110]) (by decide) (by decide) S
  rw [w, step1, ← e] at t
  have s : stepB [.str (Str.ofString "again")] = true := by
    show isW (.str (Str.ofString "again")) (Str.ofString "again") = true
    rw [isW_str]
    exact decide_eq_true rfl
  rw [if_pos s] at t
  exact t
theorem law_true : ∀ ns : List Int, ns.length ≤ 63 → ∃ S', fn_law [.scr ns] [] = .ok (.f (.bl true)) S' := fun ns hl => by
  have c0 : fn_law_cell_at [.scr ns, .int 0] [] = .ok (.f (.int (cellAt ns 0))) [] := cell_ok ns 0 hl []
  have c1 : fn_law_cell_at [.scr ns, .int 1] [] = .ok (.f (.int (cellAt ns 1))) [] := cell_ok ns 1 hl []
  have c2 : fn_law_cell_at [.scr ns, .int 2] [] = .ok (.f (.int (cellAt ns 2))) [] := cell_ok ns 2 hl []
  obtain ⟨zs, sb, v⟩ := step_by_ok (cellAt ns 0) []
  have sh := shown_ok v []
  have li := line_ok v []
  obtain ⟨l, hl'⟩ : ∃ l, TL.joinL [32] (zs.map (·.2)) = l := ⟨_, rfl⟩
  rw [hl'] at sh li
  have gl : l.all goodB = true := by
    rw [← hl']
    exact joinL_good _ fun w hw => by
      obtain ⟨z, hz, rfl⟩ := List.mem_map.mp hw
      exact (v.s z hz).2
  have ll : l.length ≤ 29 := by rw [← hl']; exact Nat.le_trans (joinL_len _) v.n
  obtain ⟨d, spo, l', rfl, gl', ll'⟩ := spoilt_ok gl ll (cellAt ns 2) (cellAt ns 1 / 2) []
  have ag := again_told []
  clear v hl'
  obtain ⟨ZS, hZ⟩ : ∃ ZS, ZS = zs.map (·.1) := ⟨_, rfl⟩
  rw [← hZ] at sb sh li
  clear hZ
  have neT : neD (.str (tx l)) (.str (tx l)) = some false := by unfold neD; rw [eqD_str, decide_eq_true rfl]; rfl
  have eqT : eqD (.str (tx l)) (.str (tx l)) = some true := by rw [eqD_str, decide_eq_true rfl]
  have neA : neD (.tup [.str (Str.ofString "again")]) (.tup [.str (Str.ofString "again")]) = some false := neD_self (k := 1) (pl_memT fun d hd => by rw [List.mem_singleton.mp hd]; exact lit_ok "again")
  have e1 : lw1 [.f (.scr ns), .u, .u] [] = .ok (.nx [.f (.scr ns), .f (.tup ZS), .u]) [] := by
    clear sh li spo ag neT eqT neA
    generalize cellAt ns 0 = C0 at *
    unfold lw1
    walk_at "ev*"
  have e2 : lw2 [.f (.scr ns), .f (.tup ZS), .u] [] = .ok (.nx [.f (.scr ns), .f (.tup ZS), .f (.str (tx l))]) [] := by
    clear li spo ag neT eqT neA sb e1
    generalize tx l = T at *
    unfold lw2
    walk_at "ev*"
  have e3 : lw3 [.f (.scr ns), .f (.tup ZS), .f (.str (tx l))] [] = .ok (.nx [.f (.scr ns), .f (.tup ZS), .f (.str (tx l))]) [] := by
    have k2 : kitB "str" "str" = some true := by decide
    clear sh spo ag eqT neA sb e1 e2
    generalize tx l = T at *
    unfold lw3
    generalize neD = n at *
    walk_at "ev*"
  have key : ∀ L : List Nat, L.all goodB = true → L.length ≤ 60 → lw4 [.f (.scr ns), .f (.tup ZS), .f (.str (tx l))] [] = .ok (.nx [.f (.scr ns), .f (.tup ZS), .f (.str (tx L))]) [] → ∃ S', fn_law [.scr ns] [] = .ok (.f (.bl true)) S' := fun L gL lL e4 => by
    have td := told_ok gL lL []
    have du := due_ok gL lL []
    have gw := words_good gL lL
    have al := alike_ok (o := stepOf (wordsL L)) (fun ds h => step_parts gw h) []
    generalize toldD (stepOf (wordsL L)) = TD at *
    generalize dueD (stepOf (wordsL L)) = DD at *
    have e5 : lw5 [.f (.scr ns), .f (.tup ZS), .f (.str (tx L))] [] = .ok (.nx [.f (.scr ns), .f (.tup ZS), .f (.str (tx L))]) [] := by
      clear sh li spo neT eqT sb e1 e2 e3 e4
      generalize tx L = T at *
      unfold lw5
      generalize neD = n at *
      walk_at "ev*"
    have e6 : lw6 [.f (.scr ns), .f (.tup ZS), .f (.str (tx L))] [] = .ok (.rt (.bl true)) [] := by
      clear spo neT neA sb e1 e2 e3 e4 e5 ag
      generalize tx L = T at *
      generalize tx l = T0 at *
      unfold lw6
      generalize eqD = q at *
      walk_at "ev*"
    have body : dn_law [.f (.scr ns), .u, .u] [] = .ok (.rt (.bl true)) [] := by
      rw [lw_all, sCons_nx' e1, sCons_nx' e2, sCons_nx' e3, sCons_nx' e4, sCons_nx' e5, e6]
    refine ⟨[], ?_⟩
    clear e1 e2 e3 e4 e5 e6 sh li spo neT eqT neA sb ag td du al
    unfold fn_law
    generalize dn_law = DL at *
    walk_at "ev*"
  by_cases c : cellAt ns 1 % 2 = 1
  · refine key l' gl' ll' ?_
    have c := eq_true c
    clear key sh li ag neT eqT neA sb e1 e2 e3
    generalize tx l = T at *
    generalize tx l' = T' at *
    generalize cellAt ns 1 = C1 at *
    generalize cellAt ns 2 = C2 at *
    unfold lw4
    walk_at "ev*"
  · refine key l gl (by omega) ?_
    have c := eq_false c
    clear key sh li ag neT eqT neA sb e1 e2 e3 spo
    generalize tx l = T at *
    generalize cellAt ns 1 = C1 at *
    unfold lw4
    walk_at "ev*"

end Law
open PySem PySem.W PyProof.Rows in
set_option maxRecDepth 100000 in
set_option maxHeartbeats 0 in
theorem PySem.Challenge.cw_taskheart_k04_shown_and_read_holds : PySem.Challenge.rw_taskheart_k04_shown_and_read.Holds := by
  w_on; o_law; k_head; (case hw => w_witness2)
  k_fill
  refine Law.walk (l := PySem.Challenge.rw_taskheart_k04_shown_and_read) rfl rfl (fun w h Y => PySem.W.kIn_of Y) ?F
  case F =>
    intro w mg fa h KX G hmg
    refine' Law.all_mk Law.law_true KX G hmg ?g_HeartError ?g_NoStep ?g_NoTask ?g_NoPlan ?g_Known ?g_Unknown ?g_NoTime ?g_Taken ?g_Free ?g_Knot ?g_Strange ?g_FullBox ?a0 ?l0 ?c0 ?k0 ?a1 ?l1 ?c1 ?k1 ?a2 ?l2 ?c2 ?k2 ?a3 ?l3 ?c3 ?k3 ?a4 ?l4 ?c4 ?k4 ?a5 ?l5 ?c5 ?k5 ?a6 ?l6 ?c6 ?k6 ?a7 ?l7 ?c7 ?k7 ?a8 ?l8 ?c8 ?k8 ?a9 ?l9 ?c9 ?k9 ?a10 ?l10 ?c10 ?k10 ?a11 ?l11 ?c11 ?k11 ?a12 ?l12 ?c12 ?k12 ?a13 ?l13 ?c13 ?k13 ?a14 ?l14 ?c14 ?k14 ?a15 ?l15 ?c15 ?k15 ?a16 ?l16 ?c16 ?k16 ?a17 ?l17 ?c17 ?k17 ?a18 ?l18 ?c18 ?k18 ?a19 ?l19 ?c19 ?k19 ?a20 ?l20 ?c20 ?k20 ?a21 ?l21 ?c21 ?k21 ?a22 ?l22 ?c22 ?k22 ?a23 ?l23 ?c23 ?k23 ?a24 ?l24 ?c24 ?k24 ?z_ValueError ?z_all ?z_int ?z_isinstance ?z_len ?z_ord ?z_range ?z_str ?z_tuple ?v_MOST_NAME ?v_MOST_TURNS ?v_MOST_WORD ?xq_HeartError ?xk_HeartError ?xb_HeartError ?xt_HeartError ?xi_HeartError ?xq_NoStep ?xk_NoStep ?xb_NoStep ?xt_NoStep ?xi_NoStep ?xq_NoTask ?xk_NoTask ?xb_NoTask ?xt_NoTask ?xi_NoTask ?xq_NoPlan ?xk_NoPlan ?xb_NoPlan ?xt_NoPlan ?xi_NoPlan ?xq_Known ?xk_Known ?xb_Known ?xt_Known ?xi_Known ?xq_Unknown ?xk_Unknown ?xb_Unknown ?xt_Unknown ?xi_Unknown ?xq_NoTime ?xk_NoTime ?xb_NoTime ?xt_NoTime ?xi_NoTime ?xq_Taken ?xk_Taken ?xb_Taken ?xt_Taken ?xi_Taken ?xq_Free ?xk_Free ?xb_Free ?xt_Free ?xi_Free ?xq_Knot ?xk_Knot ?xb_Knot ?xt_Knot ?xi_Knot ?xq_Strange ?xk_Strange ?xb_Strange ?xt_Strange ?xi_Strange ?xq_FullBox ?xk_FullBox ?xb_FullBox ?xt_FullBox ?xi_FullBox ?e1_NoStep ?e2_NoStep ?e3_NoStep ?e4_NoStep ?e5_NoStep ?e6 ?e7 ?s_NoStep_HeartError ?k_NoStep_NoTask ?k_NoStep_NoPlan ?k_NoStep_Known ?k_NoStep_Unknown ?k_NoStep_NoTime ?k_NoStep_Taken ?k_NoStep_Free ?k_NoStep_Knot ?k_NoStep_Strange ?k_NoStep_FullBox ?k_NoStep_NoStep ?k_NoStep_ValueError
    (case g_HeartError => k_is)
    (case g_NoStep => k_is)
    (case g_NoTask => k_is)
    (case g_NoPlan => k_is)
    (case g_Known => k_is)
    (case g_Unknown => k_is)
    (case g_NoTime => k_is)
    (case g_Taken => k_is)
    (case g_Free => k_is)
    (case g_Knot => k_is)
    (case g_Strange => k_is)
    (case g_FullBox => k_is)
    (case a0 => k_is)
    (case l0 => k_is)
    (case c0 => k_is)
    (case k0 => k_is)
    (case a1 => k_is)
    (case l1 => k_is)
    (case c1 => k_is)
    (case k1 => k_is)
    (case a2 => k_is)
    (case l2 => k_is)
    (case c2 => k_is)
    (case k2 => k_is)
    (case a3 => k_is)
    (case l3 => k_is)
    (case c3 => k_is)
    (case k3 => k_is)
    (case a4 => k_is)
    (case l4 => k_is)
    (case c4 => k_is)
    (case k4 => k_is)
    (case a5 => k_is)
    (case l5 => k_is)
    (case c5 => k_is)
    (case k5 => k_is)
    (case a6 => k_is)
    (case l6 => k_is)
    (case c6 => k_is)
    (case k6 => k_is)
    (case a7 => k_is)
    (case l7 => k_is)
    (case c7 => k_is)
    (case k7 => k_is)
    (case a8 => k_is)
    (case l8 => k_is)
    (case c8 => k_is)
    (case k8 => k_is)
    (case a9 => k_is)
    (case l9 => k_is)
    (case c9 => k_is)
    (case k9 => k_is)
    (case a10 => k_is)
    (case l10 => k_is)
    (case c10 => k_is)
    (case k10 => k_is)
    (case a11 => k_is)
    (case l11 => k_is)
    (case c11 => k_is)
    (case k11 => k_is)
    (case a12 => k_is)
    (case l12 => k_is)
    (case c12 => k_is)
    (case k12 => k_is)
    (case a13 => k_is)
    (case l13 => k_is)
    (case c13 => k_is)
    (case k13 => k_is)
    (case a14 => k_is)
    (case l14 => k_is)
    (case c14 => k_is)
    (case k14 => k_is)
    (case a15 => k_is)
    (case l15 => k_is)
    (case c15 => k_is)
    (case k15 => k_is)
    (case a16 => k_is)
    (case l16 => k_is)
    (case c16 => k_is)
    (case k16 => k_is)
    (case a17 => k_is)
    (case l17 => k_is)
    (case c17 => k_is)
    (case k17 => k_is)
    (case a18 => k_is)
    (case l18 => k_is)
    (case c18 => k_is)
    (case k18 => k_is)
    (case a19 => k_is)
    (case l19 => k_is)
    (case c19 => k_is)
    (case k19 => k_is)
    (case a20 => k_is)
    (case l20 => k_is)
    (case c20 => k_is)
    (case k20 => k_is)
    (case a21 => k_is)
    (case l21 => k_is)
    (case c21 => k_is)
    (case k21 => k_is)
    (case a22 => k_is)
    (case l22 => k_is)
    (case c22 => k_is)
    (case k22 => k_is)
    (case a23 => k_is)
    (case l23 => k_is)
    (case c23 => k_is)
    (case k23 => k_is)
    (case a24 => k_is)
    (case l24 => k_is)
    (case c24 => k_is)
    (case k24 => k_is)
    (case z_ValueError => k_is)
    (case z_all => k_is)
    (case z_int => k_is)
    (case z_isinstance => k_is)
    (case z_len => k_is)
    (case z_ord => k_is)
    (case z_range => k_is)
    (case z_str => k_is)
    (case z_tuple => k_is)
    (case v_MOST_NAME => k_is)
    (case v_MOST_TURNS => k_is)
    (case v_MOST_WORD => k_is)
    (case xq_HeartError => k_exc)
    (case xk_HeartError => k_is)
    (case xb_HeartError => k_is)
    (case xt_HeartError => k_is)
    (case xi_HeartError => k_is)
    (case xq_NoStep => k_exc)
    (case xk_NoStep => k_is)
    (case xb_NoStep => k_is)
    (case xt_NoStep => k_is)
    (case xi_NoStep => k_is)
    (case xq_NoTask => k_exc)
    (case xk_NoTask => k_is)
    (case xb_NoTask => k_is)
    (case xt_NoTask => k_is)
    (case xi_NoTask => k_is)
    (case xq_NoPlan => k_exc)
    (case xk_NoPlan => k_is)
    (case xb_NoPlan => k_is)
    (case xt_NoPlan => k_is)
    (case xi_NoPlan => k_is)
    (case xq_Known => k_exc)
    (case xk_Known => k_is)
    (case xb_Known => k_is)
    (case xt_Known => k_is)
    (case xi_Known => k_is)
    (case xq_Unknown => k_exc)
    (case xk_Unknown => k_is)
    (case xb_Unknown => k_is)
    (case xt_Unknown => k_is)
    (case xi_Unknown => k_is)
    (case xq_NoTime => k_exc)
    (case xk_NoTime => k_is)
    (case xb_NoTime => k_is)
    (case xt_NoTime => k_is)
    (case xi_NoTime => k_is)
    (case xq_Taken => k_exc)
    (case xk_Taken => k_is)
    (case xb_Taken => k_is)
    (case xt_Taken => k_is)
    (case xi_Taken => k_is)
    (case xq_Free => k_exc)
    (case xk_Free => k_is)
    (case xb_Free => k_is)
    (case xt_Free => k_is)
    (case xi_Free => k_is)
    (case xq_Knot => k_exc)
    (case xk_Knot => k_is)
    (case xb_Knot => k_is)
    (case xt_Knot => k_is)
    (case xi_Knot => k_is)
    (case xq_Strange => k_exc)
    (case xk_Strange => k_is)
    (case xb_Strange => k_is)
    (case xt_Strange => k_is)
    (case xi_Strange => k_is)
    (case xq_FullBox => k_exc)
    (case xk_FullBox => k_is)
    (case xb_FullBox => k_is)
    (case xt_FullBox => k_is)
    (case xi_FullBox => k_is)
    (case e1_NoStep => k_is)
    (case e2_NoStep => k_is)
    (case e3_NoStep => k_is)
    (case e4_NoStep => k_is)
    (case e5_NoStep => k_is)
    (case e6 => k_is)
    (case e7 => k_is)
    (case s_NoStep_HeartError => first | rfl | k_is)
    (case k_NoStep_NoTask => first | rfl | k_is)
    (case k_NoStep_NoPlan => first | rfl | k_is)
    (case k_NoStep_Known => first | rfl | k_is)
    (case k_NoStep_Unknown => first | rfl | k_is)
    (case k_NoStep_NoTime => first | rfl | k_is)
    (case k_NoStep_Taken => first | rfl | k_is)
    (case k_NoStep_Free => first | rfl | k_is)
    (case k_NoStep_Knot => first | rfl | k_is)
    (case k_NoStep_Strange => first | rfl | k_is)
    (case k_NoStep_FullBox => first | rfl | k_is)
    (case k_NoStep_NoStep => first | rfl | k_is)
    (case k_NoStep_ValueError => first | rfl | k_is)
