import PyProof.Rows.All
import Wide.All
import OpenK.AllK
import Wide.FinOn
import HandS.ForMost
import HandS.TupAny
import HandS.More
import HandS.Deep
import HandS.IsInst
import HandS.ClsMeth
import HandS.Defaults
import HandS.Words
import PyProof.Rows.TupDisplay
import HandS.Conv
import HandS.ExcOwn
import HandS.ExcCtx
import HandS.HotCalls
import HandS.Style
import HandS.TupSets
import KE.KeyNested
import KE.SortData
import KE.SortKeyHeap
import HandS.SortKw
import KE.KExcSuper
import HandS.Base
import HandS.Call
import HandS.Exc
import HandS.WordsExc
import HandS.HeadHook1
import HandS.HeadHook2
import HandS.HeadHook3
import HandS.Ends
import HandS.Head0
import HandS.Head1
import HandS.Head2
import HandS.HeadEnd
import KE.KStateDown
import PySem.Challenge.RW_layersserve_k75_whole_contracted_growth
section
set_option Elab.async false
set_option linter.all false
set_option maxRecDepth 100000
/-! DL1: data over the layer: values as data (D), how a heap bears them (Rep), slots, the lifting of readings. -/
namespace DL
open PySem PySem.Spec PyProof.Rows L2

inductive D where
  | non
  | bl (b : Bool)
  | int (i : Int)
  | str (x : Str)
  | lst (xs : List D)
  | tup (xs : List D)
  | ins (C : Addr) (fs : List (Str × D))
  | dT (kvs : List (List Key × D))
  | dK (kvs : List (Key × D))
  /-- the script -/
  | scr (ns : List Int)

mutual
inductive Rep (K : PySem.W.Frag) (B : Hp) : V → D → Prop
  | non : Rep K B .non .non
  | bl (b : Bool) : Rep K B (.bl b) (.bl b)
  | int (i : Int) : Rep K B (.int i) (.int i)
  | str (x : Str) : Rep K B (.str x) (.str x)
  | lst {a : Addr} {xs : List V} {ds : List D} : B a = some (.lst xs) → Reps K B xs ds → Rep K B (.ref a) (.lst ds)
  | tup {a : Addr} {xs : List V} {ds : List D} : B a = some (.tup xs) → Reps K B xs ds → Rep K B (.ref a) (.tup ds)
  | ins {a C dx : Addr} {fs : List (Str × V)} {gs : List (Str × D)} : B a = some (.ins C dx fs) → RepF K B fs gs → Rep K B (.ref a) (.ins C gs)
  | dT {a : Addr} {kvs : List (List Key × V)} {gs : List (List Key × D)} : B a = some (.dT kvs) → RepT K B kvs gs → Rep K B (.ref a) (.dT gs)
  | dK {a : Addr} {kvs : List (Key × V)} {gs : List (Key × D)} : B a = some (.dK kvs) → RepK K B kvs gs → Rep K B (.ref a) (.dK gs)
  | scr {a : Addr} {ns : List Int} : SqL K B a (ns.map V.int) → Rep K B (.ref a) (.scr ns)
inductive Reps (K : PySem.W.Frag) (B : Hp) : List V → List D → Prop
  | nil : Reps K B [] []
  | cons {v : V} {d : D} {vs : List V} {ds : List D} : Rep K B v d → Reps K B vs ds → Reps K B (v :: vs) (d :: ds)
inductive RepF (K : PySem.W.Frag) (B : Hp) : List (Str × V) → List (Str × D) → Prop
  | nil : RepF K B [] []
  | cons {f : Str} {v : V} {d : D} {vs : List (Str × V)} {ds : List (Str × D)} : Rep K B v d → RepF K B vs ds → RepF K B ((f, v) :: vs) ((f, d) :: ds)
inductive RepT (K : PySem.W.Frag) (B : Hp) : List (List Key × V) → List (List Key × D) → Prop
  | nil : RepT K B [] []
  | cons {f : List Key} {v : V} {d : D} {vs : List (List Key × V)} {ds : List (List Key × D)} : Rep K B v d → RepT K B vs ds → RepT K B ((f, v) :: vs) ((f, d) :: ds)
inductive RepK (K : PySem.W.Frag) (B : Hp) : List (Key × V) → List (Key × D) → Prop
  | nil : RepK K B [] []
  | cons {f : Key} {v : V} {d : D} {vs : List (Key × V)} {ds : List (Key × D)} : Rep K B v d → RepK K B vs ds → RepK K B ((f, v) :: vs) ((f, d) :: ds)
end

mutual
theorem Rep.mono {K : PySem.W.Frag} {B B' : Hp} (s : Same B B') : ∀ {v : V} {d : D}, Rep K B v d → Rep K B' v d
  | _, _, .non => .non
  | _, _, .bl b => .bl b
  | _, _, .int i => .int i
  | _, _, .str x => .str x
  | _, _, .lst h r => .lst (s _ _ h) (Reps.mono s r)
  | _, _, .tup h r => .tup (s _ _ h) (Reps.mono s r)
  | _, _, .ins h r => .ins (s _ _ h) (RepF.mono s r)
  | _, _, .dT h r => .dT (s _ _ h) (RepT.mono s r)
  | _, _, .dK h r => .dK (s _ _ h) (RepK.mono s r)
  | _, _, .scr h => .scr (s.seq h)
theorem Reps.mono {K : PySem.W.Frag} {B B' : Hp} (s : Same B B') : ∀ {vs : List V} {ds : List D}, Reps K B vs ds → Reps K B' vs ds
  | _, _, .nil => .nil
  | _, _, .cons r t => .cons (Rep.mono s r) (Reps.mono s t)
theorem RepF.mono {K : PySem.W.Frag} {B B' : Hp} (s : Same B B') : ∀ {vs : List (Str × V)} {ds : List (Str × D)}, RepF K B vs ds → RepF K B' vs ds
  | _, _, .nil => .nil
  | _, _, .cons r t => .cons (Rep.mono s r) (RepF.mono s t)
theorem RepT.mono {K : PySem.W.Frag} {B B' : Hp} (s : Same B B') : ∀ {vs : List (List Key × V)} {ds : List (List Key × D)}, RepT K B vs ds → RepT K B' vs ds
  | _, _, .nil => .nil
  | _, _, .cons r t => .cons (Rep.mono s r) (RepT.mono s t)
theorem RepK.mono {K : PySem.W.Frag} {B B' : Hp} (s : Same B B') : ∀ {vs : List (Key × V)} {ds : List (Key × D)}, RepK K B vs ds → RepK K B' vs ds
  | _, _, .nil => .nil
  | _, _, .cons r t => .cons (Rep.mono s r) (RepK.mono s t)
end
theorem Reps.len {K : PySem.W.Frag} {B : Hp} : ∀ {vs : List V} {ds : List D}, Reps K B vs ds → vs.length = ds.length
  | _, _, .nil => rfl
  | _, _, .cons _ t => congrArg (· + 1) (Reps.len t)
theorem Reps.get {K : PySem.W.Frag} {B : Hp} : ∀ {vs : List V} {ds : List D} {i : Nat} {d : D}, Reps K B vs ds → ds[i]? = some d → ∃ v, vs[i]? = some v ∧ Rep K B v d
  | _, _, _, _, .nil, e => by simp at e
  | _, _, 0, _, .cons r _, e => by
    simp only [List.getElem?_cons_zero, Option.some.injEq] at e
    subst e
    exact ⟨_, rfl, r⟩
  | _, _, i + 1, d, .cons _ t, e => by
    obtain ⟨v, h1, h2⟩ := Reps.get (i := i) (d := d) t (by simpa using e)
    exact ⟨v, by simpa using h1, h2⟩
theorem Reps.getV {K : PySem.W.Frag} {B : Hp} : ∀ {vs : List V} {ds : List D} {i : Nat} {v : V}, Reps K B vs ds → vs[i]? = some v → ∃ d, ds[i]? = some d ∧ Rep K B v d
  | _, _, _, _, .nil, e => by simp at e
  | _, _, 0, _, .cons r _, e => by
    simp only [List.getElem?_cons_zero, Option.some.injEq] at e
    subst e
    exact ⟨_, rfl, r⟩
  | _, _, i + 1, d, .cons _ t, e => by
    obtain ⟨v, h1, h2⟩ := Reps.getV (i := i) (v := d) t (by simpa using e)
    exact ⟨v, by simpa using h1, h2⟩
theorem Reps.snoc {K : PySem.W.Frag} {B : Hp} {v : V} {d : D} (r : Rep K B v d) : ∀ {vs : List V} {ds : List D}, Reps K B vs ds → Reps K B (vs ++ [v]) (ds ++ [d])
  | _, _, .nil => .cons r .nil
  | _, _, .cons q t => .cons q (Reps.snoc r t)
theorem Reps.app {K : PySem.W.Frag} {B : Hp} : ∀ {vs ws : List V} {ds es : List D}, Reps K B vs ds → Reps K B ws es → Reps K B (vs ++ ws) (ds ++ es)
  | _, _, _, _, .nil, s => s
  | _, _, _, _, .cons q t, s => .cons q (Reps.app t s)
theorem Reps.take {K : PySem.W.Frag} {B : Hp} (n : Nat) : ∀ {vs : List V} {ds : List D}, Reps K B vs ds → Reps K B (vs.take n) (ds.take n) := by
  induction n with
  | zero => intro vs ds _; exact .nil
  | succ n ih =>
    intro vs ds r
    cases r with
    | nil => exact .nil
    | cons q t => exact .cons q (ih t)
theorem Reps.drop {K : PySem.W.Frag} {B : Hp} (n : Nat) : ∀ {vs : List V} {ds : List D}, Reps K B vs ds → Reps K B (vs.drop n) (ds.drop n) := by
  induction n with
  | zero => intro vs ds r; exact r
  | succ n ih =>
    intro vs ds r
    cases r with
    | nil => exact .nil
    | cons q t => exact ih t
theorem Reps.set {K : PySem.W.Frag} {B : Hp} {v : V} {d : D} (r : Rep K B v d) : ∀ {vs : List V} {ds : List D} (i : Nat), Reps K B vs ds → Reps K B (vs.set i v) (ds.set i d)
  | _, _, _, .nil => .nil
  | _, _, 0, .cons _ t => .cons r t
  | _, _, i + 1, .cons q t => .cons q (Reps.set r i t)
theorem RepF.look {K : PySem.W.Frag} {B : Hp} {f : Str} : ∀ {vs : List (Str × V)} {ds : List (Str × D)} {d : D}, RepF K B vs ds → ds.lookup f = some d → ∃ v, vs.lookup f = some v ∧ Rep K B v d
  | _, _, _, .nil, e => by simp at e
  | _, _, d, .cons (f := g) r t, e => by
    rw [List.lookup_cons] at e
    rw [List.lookup_cons]
    cases q : (f == g) with
    | true =>
      rw [q] at e
      simp only [Option.some.injEq] at e
      subst e
      exact ⟨_, rfl, r⟩
    | false =>
      rw [q] at e
      exact RepF.look t e
theorem RepF.none {K : PySem.W.Frag} {B : Hp} {f : Str} : ∀ {vs : List (Str × V)} {ds : List (Str × D)}, RepF K B vs ds → ds.lookup f = Option.none → vs.lookup f = Option.none
  | _, _, .nil, _ => rfl
  | _, _, .cons (f := g) r t, e => by
    rw [List.lookup_cons] at e
    rw [List.lookup_cons]
    cases q : (f == g) with
    | true =>
      rw [q] at e
      simp at e
    | false =>
      rw [q] at e
      exact RepF.none t e
theorem RepF.len {K : PySem.W.Frag} {B : Hp} : ∀ {vs : List (Str × V)} {ds : List (Str × D)}, RepF K B vs ds → vs.length = ds.length
  | _, _, .nil => rfl
  | _, _, .cons _ t => congrArg (· + 1) (RepF.len t)
/-- a field stored -/
def putD (f : Str) (d : D) : List (Str × D) → List (Str × D)
  | [] => [(f, d)]
  | (g, e) :: r => if g = f then (g, d) :: r else (g, e) :: putD f d r
theorem RepF.put {K : PySem.W.Frag} {B : Hp} {f : Str} {v : V} {d : D} (q : Rep K B v d) : ∀ {vs : List (Str × V)} {ds : List (Str × D)}, RepF K B vs ds → RepF K B (putF f v vs) (putD f d ds)
  | _, _, .nil => .cons q .nil
  | _, _, .cons (f := g) r t => by
    show RepF K B (putF f v ((g, _) :: _)) (putD f d ((g, _) :: _))
    unfold putF putD
    by_cases h : g = f
    · rw [if_pos h, if_pos h]
      exact .cons q t
    · rw [if_neg h, if_neg h]
      exact .cons r (RepF.put q t)
end DL
#print L2.putF
end
section
set_option Elab.async false
set_option linter.all false
set_option maxRecDepth 100000
/-! DL2: steps of heaps, slots, the lifting of readings. -/
namespace DL
open PySem PySem.Spec PyProof.Rows L2

/-- from a frozen base B under a heap H to B' under H': all stays, and what is new in the base was not in the heap -/
structure Step (B H B' H' : Hp) : Prop where
  h : Same H H'
  b : Same B B'
  u : Same B' H'
  n : ∀ a, H a ≠ none → B' a = B a
theorem Step.refl {B H : Hp} (s : Same B H) : Step B H B H := ⟨Same.refl H, Same.refl B, s, fun _ _ => rfl⟩
theorem Same.ne {H H' : Hp} (s : Same H H') {a : Addr} (h : H a ≠ none) : H' a ≠ none := by
  cases e : H a with
  | none => exact absurd e h
  | some o => rw [s a o e]; exact fun z => nomatch z
theorem Step.trans {B H B1 H1 B2 H2 : Hp} (x : Step B H B1 H1) (y : Step B1 H1 B2 H2) : Step B H B2 H2 :=
  ⟨x.h.trans y.h, x.b.trans y.b, y.u, fun a h => (y.n a (Same.ne x.h h)).trans (x.n a h)⟩
/-- the heap alone has grown -/
theorem Step.grow {B H B' H' H2 : Hp} (x : Step B H B' H') (s : Same H' H2) : Step B H B' H2 := ⟨x.h.trans s, x.b, x.u.trans s, x.n⟩
theorem same_upd {H : Hp} {p : Addr} {o : HO} (h : H p = none) : Same H (upd H p o) := fun b x e => by
  rw [upd_ne (ne_of_none e h)]
  exact e
theorem Same.none {H H' : Hp} (s : Same H H') {a : Addr} (h : H' a = Option.none) : H a = Option.none := s.free h
/-- a new object, frozen at once -/
theorem Step.new {B H : Hp} (s : Same B H) {p : Addr} {o : HO} (h : H p = none) : Step B H (upd B p o) (upd H p o) := by
  have hB : B p = none := Same.none s h
  refine ⟨same_upd h, same_upd hB, fun b x e => ?_, fun a ha => ?_⟩
  · by_cases hb : b = p
    · subst hb
      rw [upd_same] at e ⊢
      exact e
    · rw [upd_ne hb] at e
      rw [upd_ne hb]
      exact s _ _ e
  · refine upd_ne fun z => ?_
    rw [z, h] at ha
    exact ha rfl
/-- a new object, not frozen -/
theorem Step.raw {B H : Hp} (s : Same B H) {p : Addr} {o : HO} (h : H p = none) : Step B H B (upd H p o) :=
  ⟨same_upd h, Same.refl B, s.trans (same_upd h), fun _ _ => rfl⟩
/-- an object that stands in the heap since, but not before, is frozen -/
theorem Step.freeze {B H B' H' : Hp} (x : Step B H B' H') {p : Addr} {o : HO} (h : H p = none) (h' : H' p = some o) (hb : B' p = none) : Step B H (upd B' p o) H' := by
  refine ⟨x.h, x.b.trans (same_upd hb), fun b u e => ?_, fun a ha => ?_⟩
  · by_cases hb : b = p
    · subst hb
      rw [upd_same] at e
      rw [h']
      exact e
    · rw [upd_ne hb] at e
      exact x.u _ _ e
  · have : a ≠ p := fun z => by
      rw [z, h] at ha
      exact ha rfl
    rw [upd_ne this]
    exact x.n a ha

/-! ### a value that is read, not kept: its items lie in the base, itself in the heap -/
inductive RepW (K : PySem.W.Frag) (B H : Hp) : V → D → Prop
  | st {v : V} {d : D} : Rep K B v d → RepW K B H v d
  | ls {a : Addr} {xs : List V} {ds : List D} : H a = some (.lst xs) → Reps K B xs ds → RepW K B H (.ref a) (.lst ds)
  | dT {a : Addr} {kvs : List (List Key × V)} {gs : List (List Key × D)} : H a = some (.dT kvs) → RepT K B kvs gs → RepW K B H (.ref a) (.dT gs)
  | dK {a : Addr} {kvs : List (Key × V)} {gs : List (Key × D)} : H a = some (.dK kvs) → RepK K B kvs gs → RepW K B H (.ref a) (.dK gs)
theorem RepW.mono {K : PySem.W.Frag} {B H B' H' : Hp} (b : Same B B') (h : Same H H') {v : V} {d : D} (r : RepW K B H v d) : RepW K B' H' v d := by
  cases r with
  | st r => exact .st (r.mono b)
  | ls s r => exact .ls (h _ _ s) (Reps.mono b r)
  | dT e r => exact .dT (h _ _ e) (RepT.mono b r)
  | dK e r => exact .dK (h _ _ e) (RepK.mono b r)
theorem RepW.list {K : PySem.W.Frag} {B H : Hp} (u : Same B H) {v : V} {ds : List D} (r : RepW K B H v (.lst ds)) : ∃ a xs, v = .ref a ∧ H a = some (.lst xs) ∧ Reps K B xs ds := by
  cases r with
  | st r => cases r with | lst h r => exact ⟨_, _, rfl, u _ _ h, r⟩
  | ls s r => exact ⟨_, _, rfl, s, r⟩
theorem Rep.list {K : PySem.W.Frag} {B : Hp} {v : V} {ds : List D} (r : Rep K B v (.lst ds)) : ∃ a xs, v = .ref a ∧ B a = some (.lst xs) ∧ Reps K B xs ds := by
  cases r with | lst h r => exact ⟨_, _, rfl, h, r⟩
theorem Rep.tuple {K : PySem.W.Frag} {B : Hp} {v : V} {ds : List D} (r : Rep K B v (.tup ds)) : ∃ a xs, v = .ref a ∧ B a = some (.tup xs) ∧ Reps K B xs ds := by
  cases r with | tup h r => exact ⟨_, _, rfl, h, r⟩
theorem Rep.inst {K : PySem.W.Frag} {B : Hp} {v : V} {C : Addr} {gs : List (Str × D)} (r : Rep K B v (.ins C gs)) : ∃ a dx fs, v = .ref a ∧ B a = some (.ins C dx fs) ∧ RepF K B fs gs := by
  cases r with | ins h r => exact ⟨_, _, _, rfl, h, r⟩
theorem RepW.tuple {K : PySem.W.Frag} {B H : Hp} {v : V} {ds : List D} (r : RepW K B H v (.tup ds)) : ∃ a xs, v = .ref a ∧ B a = some (.tup xs) ∧ Reps K B xs ds := by
  cases r with
  | st r => exact r.tuple

/-! ### slots -/
inductive Sl where
  /-- nothing is known -/
  | no
  /-- a datum, never changed -/
  | st (d : D)
  /-- a datum that may be read and not kept -/
  | wk (d : D)
  /-- a list of one's own -/
  | ow (a : Addr) (ds : List D)
  /-- a dict of one's own -/
  | oT (a : Addr) (gs : List (List Key × D))
  | oK (a : Addr) (gs : List (Key × D))
  /-- an instance of one's own -/
  | oI (a : Addr) (C : Addr) (gs : List (Str × D))
def Sl.own : Sl → Option Addr
  | .ow a _ => some a
  | .oT a _ => some a
  | .oK a _ => some a
  | .oI a _ _ => some a
  | _ => none
def SlOk (K : PySem.W.Frag) (H0 B H : Hp) (o : Option V) : Sl → Prop
  | .no => True
  | .st d => ∃ v, o = some v ∧ Rep K B v d
  | .wk d => ∃ v, o = some v ∧ RepW K B H0 v d
  | .ow a ds => o = some (.ref a) ∧ B a = none ∧ H0 a = none ∧ ∃ xs, H a = some (.lst xs) ∧ Reps K B xs ds
  | .oT a gs => o = some (.ref a) ∧ B a = none ∧ H0 a = none ∧ ∃ kvs, H a = some (.dT kvs) ∧ RepT K B kvs gs
  | .oK a gs => o = some (.ref a) ∧ B a = none ∧ H0 a = none ∧ ∃ kvs, H a = some (.dK kvs) ∧ RepK K B kvs gs
  | .oI a C gs => o = some (.ref a) ∧ B a = none ∧ H0 a = none ∧ ∃ dx fs, H a = some (.ins C dx fs) ∧ RepF K B fs gs
theorem SlOk.mono {K : PySem.W.Frag} {H0 B H B' H' : Hp} {o : Option V} {s : Sl} (x : SlOk K H0 B H o s) (b : Same B B') (h : Same H H') (n : ∀ a, H a ≠ none → B' a = B a) : SlOk K H0 B' H' o s := by
  have hn : ∀ {a : Addr} {u : HO}, H a = some u → B a = none → B' a = none := fun {a u} e z => (n a (by rw [e]; exact fun q => nomatch q)).trans z
  cases s with
  | no => trivial
  | st d => obtain ⟨v, e, r⟩ := x; exact ⟨v, e, r.mono b⟩
  | wk d => obtain ⟨v, e, r⟩ := x; exact ⟨v, e, r.mono b (Same.refl _)⟩
  | ow a ds => obtain ⟨e, z, y, xs, q, r⟩ := x; exact ⟨e, hn q z, y, xs, h _ _ q, Reps.mono b r⟩
  | oT a ds => obtain ⟨e, z, y, xs, q, r⟩ := x; exact ⟨e, hn q z, y, xs, h _ _ q, RepT.mono b r⟩
  | oK a ds => obtain ⟨e, z, y, xs, q, r⟩ := x; exact ⟨e, hn q z, y, xs, h _ _ q, RepK.mono b r⟩
  | oI a C gs => obtain ⟨e, z, y, dx, fs, q, r⟩ := x; exact ⟨e, hn q z, y, dx, fs, h _ _ q, RepF.mono b r⟩

abbrev St' := List Sl
/-- the slots' words hold; H0, B0: heap and base at the def's entry -/
structure Env (K : PySem.W.Frag) (H0 B0 B H : Hp) (σ : L2.St) (δ : St') : Prop where
  step : Step B0 H0 B H
  len : σ.length = δ.length
  sl : ∀ (i : Nat) (s : Sl), δ[i]? = some s → ∃ o, σ[i]? = some o ∧ SlOk K H0 B H o s
  nd : ∀ (i j : Nat) (s t : Sl) (a : Addr), δ[i]? = some s → δ[j]? = some t → s.own = some a → t.own = some a → i = j
theorem Env.mono {K : PySem.W.Frag} {H0 B0 B H B' H' : Hp} {σ : L2.St} {δ : St'} (e : Env K H0 B0 B H σ δ) (s : Step B H B' H') : Env K H0 B0 B' H' σ δ :=
  ⟨e.step.trans s, e.len, fun i t ht => let ⟨o, h, q⟩ := e.sl i t ht; ⟨o, h, q.mono s.b s.h s.n⟩, e.nd⟩
theorem Env.u {K : PySem.W.Frag} {H0 B0 B H : Hp} {σ : L2.St} {δ : St'} (e : Env K H0 B0 B H σ δ) : Same B H := e.step.u

/-! ### lifted readings -/
abbrev WE := St' → (D → Prop) → Prop
abbrev WT := St' → (Bool → Prop) → Prop
abbrev WA := St' → (List D → Prop) → Prop
structure De where
  nx : St' → Prop
  rt : D → Prop
  bk : St' → Prop := fun _ => False
  ct : St' → Prop := fun _ => False
abbrev WS := De → St' → Prop
abbrev WG := D → St' → (St' → Prop) → Prop
/-- the slots outside ts are as they were -/
structure Agree (ts : List Nat) (σ : L2.St) (δ : St') (σ' : L2.St) (δ' : St') : Prop where
  len : σ'.length = σ.length
  at_ : ∀ j, j ∉ ts → σ'[j]? = σ[j]?
  own : ∀ (j : Nat) (s : Sl) (a : Addr), δ'[j]? = some s → s.own = some a → ∃ (k : Nat) (t : Sl), δ[k]? = some t ∧ t.own = some a
section
variable (K : PySem.W.Frag)
/-- the value may be kept -/
def LE (t : TE) (W : WE) : Prop := ∀ (H0 B0 B H : Hp) (σ : L2.St) (δ : St') (P : D → Prop) (Q : VK), Env K H0 B0 B H σ δ → W δ P →
  (∀ B' H' v d, Step B H B' H' → Rep K B' v d → P d → Q v H') → t σ H Q
/-- the value may be read -/
def LW (t : TE) (W : WE) : Prop := ∀ (H0 B0 B H : Hp) (σ : L2.St) (δ : St') (P : D → Prop) (Q : VK), Env K H0 B0 B H σ δ → W δ P →
  (∀ B' H' v d, Step B H B' H' → RepW K B' H' v d → P d → Q v H') → t σ H Q
/-- a new list -/
def LF (t : TE) (W : WA) : Prop := ∀ (H0 B0 B H : Hp) (σ : L2.St) (δ : St') (P : List D → Prop) (Q : VK), Env K H0 B0 B H σ δ → W δ P →
  (∀ B' H' a xs ds, Step B H B' H' → H a = none → H' a = some (.lst xs) → B' a = none → Reps K B' xs ds → P ds → Q (.ref a) H') → t σ H Q
def LT (t : TT) (W : WT) : Prop := ∀ (H0 B0 B H : Hp) (σ : L2.St) (δ : St') (P : Bool → Prop) (Q : Bool → Hp → Prop), Env K H0 B0 B H σ δ → W δ P →
  (∀ B' H' b, Step B H B' H' → P b → Q b H') → t σ H Q
/-- arguments: kept (true) or read (false) -/
inductive ArgsOk (B H : Hp) : List Bool → List V → List D → Prop
  | nil : ArgsOk B H [] [] []
  | st {ms vs ds v d} : Rep K B v d → ArgsOk B H ms vs ds → ArgsOk B H (true :: ms) (v :: vs) (d :: ds)
  | wk {ms vs ds v d} : RepW K B H v d → ArgsOk B H ms vs ds → ArgsOk B H (false :: ms) (v :: vs) (d :: ds)
def LA (ms : List Bool) (t : TA) (W : WA) : Prop := ∀ (H0 B0 B H : Hp) (σ : L2.St) (δ : St') (P : List D → Prop) (Q : List V → Hp → Prop), Env K H0 B0 B H σ δ → W δ P →
  (∀ B' H' vs ds, Step B H B' H' → ArgsOk K B' H' ms vs ds → P ds → Q vs H') → t σ H Q
def LS (t : TS) (W : WS) : Prop := ∀ (H0 B0 B H : Hp) (σ : L2.St) (δ : St') (P : De) (E : Ends), Env K H0 B0 B H σ δ → W P δ →
  (∀ B' H' σ' δ', Same B B' → Env K H0 B0 B' H' σ' δ' → P.nx δ' → E.nx σ' H') →
  (∀ B' H' v d, Step B0 H0 B' H' → Rep K B' v d → P.rt d → E.rt v H') →
  (∀ B' H' σ' δ', Same B B' → Env K H0 B0 B' H' σ' δ' → P.bk δ' → E.bk σ' H') →
  (∀ B' H' σ' δ', Same B B' → Env K H0 B0 B' H' σ' δ' → P.ct δ' → E.ct σ' H') → t E σ H
def LG (g : TG) (ts : List Nat) (W : WG) : Prop := ∀ (H0 B0 B H : Hp) (σ : L2.St) (δ : St') (v : V) (d : D) (P : St' → Prop) (Q : L2.St → Hp → Prop), Env K H0 B0 B H σ δ → Rep K B v d → W d δ P →
  (∀ σ' δ', Agree ts σ δ σ' δ' → Env K H0 B0 B H σ' δ' → P δ' → Q σ' H) → g v σ H Q
end
theorem ArgsOk.mono {K : PySem.W.Frag} {B H B' H' : Hp} (b : Same B B') (h : Same H H') : ∀ {ms : List Bool} {vs : List V} {ds : List D}, ArgsOk K B H ms vs ds → ArgsOk K B' H' ms vs ds
  | _, _, _, .nil => .nil
  | _, _, _, .st r t => .st (r.mono b) (t.mono b h)
  | _, _, _, .wk r t => .wk (r.mono b h) (t.mono b h)
theorem ArgsOk.len {K : PySem.W.Frag} {B H : Hp} : ∀ {ms : List Bool} {vs : List V} {ds : List D}, ArgsOk K B H ms vs ds → vs.length = ms.length
  | _, _, _, .nil => rfl
  | _, _, _, .st _ t => congrArg (· + 1) t.len
  | _, _, _, .wk _ t => congrArg (· + 1) t.len
theorem LE.w {K : PySem.W.Frag} {t : TE} {W : WE} (l : LE K t W) : LW K t W := fun H0 B0 B H σ δ P Q e w q =>
  l H0 B0 B H σ δ P Q e w fun B' H' v d s r p => q B' H' v d s (.st r) p
/-- a new list is frozen at once -/
theorem LF.e {K : PySem.W.Frag} {t : TE} {W : WA} (l : LF K t W) : LE K t fun δ P => W δ fun ds => P (.lst ds) := fun H0 B0 B H σ δ P Q e w q =>
  l H0 B0 B H σ δ _ Q e w fun B' H' a xs ds s h0 h1 h2 r p =>
    q (upd B' a (.lst xs)) H' (.ref a) (.lst ds) (s.freeze h0 h1 h2) (.lst upd_same (Reps.mono (same_upd h2) r)) p

/-! ### the judgements -/
structure DE (X : Cx) (e : Expr) (t : TE) (W : WE) : Prop where
  p : PE X e t
  l : LE X.K t W
structure DW (X : Cx) (e : Expr) (t : TE) (W : WE) : Prop where
  p : PE X e t
  l : LW X.K t W
structure DF (X : Cx) (e : Expr) (t : TE) (W : WA) : Prop where
  p : PE X e t
  l : LF X.K t W
structure DT (X : Cx) (e : Expr) (t : TT) (W : WT) : Prop where
  p : PT X e t
  l : LT X.K t W
structure DTW (X : Cx) (e : Expr) (t : TT) (W : WT) : Prop where
  p : PW X e t
  l : LT X.K t W
structure DA (X : Cx) (ms : List Bool) (es : List Expr) (t : TA) (W : WA) : Prop where
  p : PA X es t
  l : LA X.K ms t W
structure DS (X : Cx) (st : Stmt) (t : TS) (W : WS) : Prop where
  p : PS X st t
  l : LS X.K t W
structure DSs (X : Cx) (st : List Stmt) (t : TS) (W : WS) : Prop where
  p : PSs X st t
  l : LS X.K t W
structure DG (X : Cx) (tg : Expr) (g : TG) (ts : List Nat) (W : WG) : Prop where
  p : PG X tg g
  l : LG X.K g ts W
theorem DE.w {X : Cx} {e : Expr} {t : TE} {W : WE} (h : DE X e t W) : DW X e t W := ⟨h.p, h.l.w⟩
theorem DF.e {X : Cx} {e : Expr} {t : TE} {W : WA} (h : DF X e t W) : DE X e t fun δ P => W δ fun ds => P (.lst ds) := ⟨h.p, h.l.e⟩
theorem DF.w {X : Cx} {e : Expr} {t : TE} {W : WA} (h : DF X e t W) : DW X e t fun δ P => W δ fun ds => P (.lst ds) := h.e.w

/-! ### names, constants -/
section
variable {X : Cx}
def wSt (i : Nat) : WE := fun δ P => ∃ d, δ[i]? = some (.st d) ∧ P d
/-- a name's datum, kept -/
theorem dv (i : Nat) {x : Str} {pos : Pos} (hN : X.N[i]? = some x := by rfl) (hv : Vis X.env.scope x := by first | exact Or.inl rfl | exact Or.inr (Or.inl rfl) | exact Or.inr (Or.inr rfl)) (hd : (x == ("__debug__" : Str)) = false := by decide)
    (hcd : (x == ("__classdict__" : Str)) = false := by decide) : DE X (.Name x pos) (tVar i) (wSt i) := by
  refine ⟨pe_var hN hv hd hcd, fun H0 B0 B H σ δ P Q e w q => ?_⟩
  obtain ⟨d, h, p⟩ := w
  obtain ⟨o, ho, v, hv, r⟩ := e.sl i _ h
  subst hv
  exact ⟨v, ho, q B H v d (Step.refl e.u) r p⟩
/-- a name's datum, read -/
def rdSl : Sl → Option D
  | .st d => some d
  | .wk d => some d
  | .ow _ ds => some (.lst ds)
  | .oT _ gs => some (.dT gs)
  | .oK _ gs => some (.dK gs)
  | _ => none
def wRd (i : Nat) : WE := fun δ P => ∃ s d, δ[i]? = some s ∧ rdSl s = some d ∧ P d
theorem SlOk.rd {K : PySem.W.Frag} {H0 B H : Hp} {o : Option V} {s : Sl} {d : D} (x : SlOk K H0 B H o s) (u0 : Same H0 H) (e : rdSl s = some d) : ∃ v, o = some v ∧ RepW K B H v d := by
  cases s with
  | no => cases e
  | st d => cases e; obtain ⟨v, h, r⟩ := x; exact ⟨v, h, .st r⟩
  | wk d => cases e; obtain ⟨v, h, r⟩ := x; exact ⟨v, h, r.mono (Same.refl _) u0⟩
  | ow a ds => cases e; obtain ⟨h, _, _, xs, q, r⟩ := x; exact ⟨_, h, .ls q r⟩
  | oT a ds => cases e; obtain ⟨h, _, _, xs, q, r⟩ := x; exact ⟨_, h, .dT q r⟩
  | oK a ds => cases e; obtain ⟨h, _, _, xs, q, r⟩ := x; exact ⟨_, h, .dK q r⟩
  | oI a C gs => cases e
theorem dr (i : Nat) {x : Str} {pos : Pos} (hN : X.N[i]? = some x := by rfl) (hv : Vis X.env.scope x := by first | exact Or.inl rfl | exact Or.inr (Or.inl rfl) | exact Or.inr (Or.inr rfl)) (hd : (x == ("__debug__" : Str)) = false := by decide)
    (hcd : (x == ("__classdict__" : Str)) = false := by decide) : DW X (.Name x pos) (tVar i) (wRd i) := by
  refine ⟨pe_var hN hv hd hcd, fun H0 B0 B H σ δ P Q e w q => ?_⟩
  obtain ⟨s, d, h, hs, p⟩ := w
  obtain ⟨o, ho, x⟩ := e.sl i _ h
  obtain ⟨v, hv, r⟩ := x.rd e.step.h hs
  subst hv
  exact ⟨v, ho, q B H v d (Step.refl e.u) r p⟩
def wC (d : D) : WE := fun _ P => P d
theorem de_int {i j pos} : DE X (.Constant (.int i) j pos) (tC (.int i)) (wC (.int i)) := ⟨pe_int, fun H0 B0 B H σ δ P Q e w q => q B H _ _ (Step.refl e.u) (.int i) w⟩
theorem de_bl {i j pos} : DE X (.Constant (.bool i) j pos) (tC (.bl i)) (wC (.bl i)) := ⟨pe_bl, fun H0 B0 B H σ δ P Q e w q => q B H _ _ (Step.refl e.u) (.bl i) w⟩
theorem de_non {j pos} : DE X (.Constant .none j pos) (tC .non) (wC .non) := ⟨pe_non, fun H0 B0 B H σ δ P Q e w q => q B H _ _ (Step.refl e.u) .non w⟩
theorem de_str {x j pos} : DE X (.Constant (.str x) j pos) (tC (.str x)) (wC (.str x)) := ⟨pe_str, fun H0 B0 B H σ δ P Q e w q => q B H _ _ (Step.refl e.u) (.str x) w⟩
/-- a module's int -/
theorem de_gint {x : Str} {i : Int} {pos : Pos} (hg : Gl X x) (hm : ∃ t, X.mg x = some (.int i t)) (hd : (x == ("__debug__" : Str)) = false := by decide) : DE X (.Name x pos) (tC (.int i)) (wC (.int i)) := by
  obtain ⟨t, hm⟩ := hm
  exact ⟨pe_glob (v := .int i) hg hm ⟨t, rfl⟩ hd, fun H0 B0 B H σ δ P Q e w q => q B H _ _ (Step.refl e.u) (.int i) w⟩

/-! ### two-place operators -/
/-- an operator's law on data, both sides kept or read -/
def LO (K : PySem.W.Frag) (r : R2) (w : D → D → (D → Prop) → Prop) : Prop := ∀ (B H : Hp) (x y : V) (a b : D) (P : D → Prop) (Q : VK), Same B H → RepW K B H x a → RepW K B H y b → w a b P →
  (∀ B' H' v d, Step B H B' H' → Rep K B' v d → P d → Q v H') → r x y H Q
def wOp (w : D → D → (D → Prop) → Prop) (Wa Wb : WE) : WE := fun δ P => Wa δ fun a => Wb δ fun b => w a b P
theorem LW.op {K : PySem.W.Frag} {r : R2} {w : D → D → (D → Prop) → Prop} {ta tb : TE} {Wa Wb : WE} (la : LW K ta Wa) (lb : LW K tb Wb) (lo : LO K r w) : LE K (tOp r ta tb) (wOp w Wa Wb) := fun H0 B0 B H σ δ P Q e h q =>
  la H0 B0 B H σ δ _ _ e h fun B1 H1 x a s1 r1 h1 => lb H0 B0 B1 H1 σ δ _ _ (e.mono s1) h1 fun B2 H2 y b s2 r2 h2 =>
    lo B2 H2 x y a b P Q s2.u (r1.mono s2.b s2.h) r2 h2 fun B' H' v d s3 r3 p => q B' H' v d ((s1.trans s2).trans s3) r3 p
variable {a b c : Expr} {ta tb : TE} {Wa Wb : WE} {pos : Pos} {w : D → D → (D → Prop) → Prop} {r : R2}
theorem de_op {op : Operator} (ho : OpR X (binaryOp op) r) (lo : LO X.K r w) (ha : DW X a ta Wa) (hb : DW X b tb Wb) : DE X (.BinOp a op b pos) (tOp r ta tb) (wOp w Wa Wb) := by
  obtain ⟨pa, la⟩ := ha
  obtain ⟨pb, lb⟩ := hb
  exact ⟨pe_op ho pa pb, la.op lb lo⟩
theorem de_cmp {op : CmpOp} (ho : OpR X (compareOp op) r) (lo : LO X.K r w) (ha : DW X a ta Wa) (hb : DW X b tb Wb) (hm : behindInMarks op b = false) : DE X (.Compare a [op] [b] pos) (tOp r ta tb) (wOp w Wa Wb) := by
  obtain ⟨pa, la⟩ := ha
  obtain ⟨pb, lb⟩ := hb
  exact ⟨pe_cmpR ho pa pb hm, la.op lb lo⟩
def wTest (W : WE) : WT := fun δ P => W δ fun d => ∃ k, d = .bl k ∧ P k
theorem LE.test {K : PySem.W.Frag} {t : TE} {W : WE} (l : LE K t W) : LT K (tTest t) (wTest W) := fun H0 B0 B H σ δ P Q e h q =>
  l H0 B0 B H σ δ _ _ e h fun B' H' v d s r ⟨k, hd, p⟩ => by
    subst hd
    cases r
    exact ⟨k, rfl, q B' H' k s p⟩
theorem dt_cmp {op : CmpOp} (ho : OpR X (compareOp op) r) (lo : LO X.K r w) (ha : DW X a ta Wa) (hb : DW X b tb Wb) (hm : behindInMarks op b = false) : DT X (.Compare a [op] [b] pos) (tTest (tOp r ta tb)) (wTest (wOp w Wa Wb)) := by
  obtain ⟨pa, la⟩ := ha
  obtain ⟨pb, lb⟩ := hb
  exact ⟨pt_cmpR ho pa pb hm, (la.op lb lo).test⟩
/-- ints to a datum -/
def wI (C : Int → Int → Prop) (g : Int → Int → D) : D → D → (D → Prop) → Prop := fun a b P => ∃ i j, a = .int i ∧ b = .int j ∧ C i j ∧ P (g i j)
def wI0 (g : Int → Int → D) : D → D → (D → Prop) → Prop := fun a b P => ∃ i j, a = .int i ∧ b = .int j ∧ P (g i j)
theorem RepW.int {K : PySem.W.Frag} {B H : Hp} {x : V} {i : Int} (r : RepW K B H x (.int i)) : x = .int i := by
  cases r with | st r => cases r; rfl
theorem RepW.bl {K : PySem.W.Frag} {B H : Hp} {x : V} {i : Bool} (r : RepW K B H x (.bl i)) : x = .bl i := by
  cases r with | st r => cases r; rfl
theorem RepW.non {K : PySem.W.Frag} {B H : Hp} {x : V} (r : RepW K B H x .non) : x = .non := by
  cases r with | st r => cases r; rfl
theorem lo_I {K : PySem.W.Frag} {C : Int → Int → Prop} {g : Int → Int → Int} : LO K (rI C fun i j => .int (g i j)) (wI C fun i j => .int (g i j)) := fun B H x y a b P Q u r1 r2 h q => by
  obtain ⟨i, j, rfl, rfl, c, p⟩ := h
  exact ⟨i, j, r1.int, r2.int, c, q B H _ _ (Step.refl u) (.int _) p⟩
theorem lo_I0 {K : PySem.W.Frag} {g : Int → Int → Int} : LO K (rI0 fun i j => .int (g i j)) (wI0 fun i j => .int (g i j)) := fun B H x y a b P Q u r1 r2 h q => by
  obtain ⟨i, j, rfl, rfl, p⟩ := h
  exact ⟨i, j, r1.int, r2.int, q B H _ _ (Step.refl u) (.int _) p⟩
theorem lo_B0 {K : PySem.W.Frag} {g : Int → Int → Bool} : LO K (rI0 fun i j => .bl (g i j)) (wI0 fun i j => .bl (g i j)) := fun B H x y a b P Q u r1 r2 h q => by
  obtain ⟨i, j, rfl, rfl, p⟩ := h
  exact ⟨i, j, r1.int, r2.int, q B H _ _ (Step.refl u) (.bl _) p⟩
/-- is None, is not None -/
def isNon : D → Bool
  | .non => true
  | _ => false
def wIsN : D → D → (D → Prop) → Prop := fun a b P => b = .non ∧ P (.bl (isNon a))
def wNotN : D → D → (D → Prop) → Prop := fun a b P => b = .non ∧ P (.bl (!isNon a))
theorem RepW.isN {K : PySem.W.Frag} {B H : Hp} {x : V} {d : D} (r : RepW K B H x d) : decide (x = .non) = isNon d := by
  cases r with
  | st r => cases r <;> first | rfl | (exact decide_eq_false fun z => nomatch z)
  | ls => exact decide_eq_false fun z => nomatch z
  | dT => exact decide_eq_false fun z => nomatch z
  | dK => exact decide_eq_false fun z => nomatch z
theorem lo_isN {K : PySem.W.Frag} : LO K (fun x y H Q => y = .non ∧ Q (.bl (decide (x = .non))) H) wIsN := fun B H x y a b P Q u r1 r2 h q => by
  obtain ⟨rfl, p⟩ := h
  refine ⟨r2.non, ?_⟩
  rw [r1.isN]
  exact q B H _ _ (Step.refl u) (.bl _) p
theorem lo_notN {K : PySem.W.Frag} : LO K (fun x y H Q => y = .non ∧ Q (.bl (!decide (x = .non))) H) wNotN := fun B H x y a b P Q u r1 r2 h q => by
  obtain ⟨rfl, p⟩ := h
  refine ⟨r2.non, ?_⟩
  rw [r1.isN]
  exact q B H _ _ (Step.refl u) (.bl _) p

/-! ### one-place -/
def wUn (w : D → (D → Prop) → Prop) (Wa : WE) : WE := fun δ P => Wa δ fun a => w a P
def wNeg : D → (D → Prop) → Prop := fun a P => ∃ i, a = .int i ∧ P (.int (-i))
theorem de_neg (ha : DW X a ta Wa) : DE X (.UnaryOp .USub a pos) (tUn (rU fun i => .int (-i)) ta) (wUn wNeg Wa) := by
  obtain ⟨pa, la⟩ := ha
  refine ⟨pe_un un_neg pa, fun H0 B0 B H σ δ P Q e h q => la H0 B0 B H σ δ _ _ e h fun B1 H1 x d s r ⟨i, hd, p⟩ => ?_⟩
  subst hd
  exact ⟨i, r.int, q B1 H1 _ _ s (.int _) p⟩

/-! ### truth, and, or, not, if-expressions -/
theorem dt_val (ha : DE X a ta Wa) (he : ∀ whole, isTrue a X.env whole = (do let v ← whole; standAt a.pos; holding [v] (truthy v)) := by intro _; rfl) : DT X a (tB ta) (wTest Wa) := by
  obtain ⟨pa, la⟩ := ha
  exact ⟨pt_val pa he, la.test⟩
def truD : D → Option Bool
  | .non => some false
  | .bl b => some b
  | .int i => some (i != 0)
  | .lst xs => some (!xs.isEmpty)
  | .tup xs => some (!xs.isEmpty)
  | _ => none
def wTru (W : WE) : WT := fun δ P => W δ fun d => ∃ k, truD d = some k ∧ P k
theorem Reps.emp {K : PySem.W.Frag} {B : Hp} {xs : List V} {ds : List D} (r : Reps K B xs ds) : xs.isEmpty = ds.isEmpty := by
  cases r <;> rfl
theorem dt_tru (ha : DW X a ta Wa) (he : ∀ whole, isTrue a X.env whole = (do let v ← whole; standAt a.pos; holding [v] (truthy v)) := by intro _; rfl) : DT X a (fun σ H Q => ta σ H fun x H' => ∃ k, TruV X.K x H' k ∧ Q k H') (wTru Wa) := by
  obtain ⟨pa, la⟩ := ha
  refine ⟨pt_truth pa he, fun H0 B0 B H σ δ P Q e h q => la H0 B0 B H σ δ _ _ e h fun B1 H1 x d s r ⟨k, hd, p⟩ => ⟨k, ?_, q B1 H1 k s p⟩⟩
  cases r with
  | st r =>
    cases r with
    | non => cases hd; rfl
    | bl b => cases hd; rfl
    | int i => cases hd; rfl
    | str x => cases hd
    | lst h r => cases hd; exact .inl ⟨_, SqL.of (s.u _ _ h), by rw [r.emp]⟩
    | tup h r => cases hd; exact .inr (.inl ⟨_, SqT.of (s.u _ _ h), by rw [r.emp]⟩)
    | ins h r => cases hd
    | dT h r => cases hd
    | dK h r => cases hd
    | scr h => cases hd
  | ls h r => cases hd; exact .inl ⟨_, SqL.of h, by rw [r.emp]⟩
  | dT h r => cases hd
  | dK h r => cases hd
variable {tA tB' : TT} {tc : TT} {TA' TB' : WT} {rest : List Expr}
def wAnd (t u : WT) : WT := fun δ P => t δ fun c => if c = true then u δ P else P false
def wOr (t u : WT) : WT := fun δ P => t δ fun c => if c = true then P true else u δ P
def wNot (t : WT) : WT := fun δ P => t δ fun c => P (!c)
theorem DTW.t (h : DTW X a tA TA') : DT X a tA TA' := ⟨h.p.pt, h.l⟩
theorem dw_and1 (ha : DT X a tA TA') : DTW X (.BoolOp .And [a] pos) tA TA' := ⟨pw_and1 ha.p, ha.l⟩
theorem dw_or1 (ha : DT X a tA TA') : DTW X (.BoolOp .Or [a] pos) tA TA' := ⟨pw_or1 ha.p, ha.l⟩
theorem dw_and (ha : DT X a tA TA') (hb : DTW X (.BoolOp .And (b :: rest) pos) tB' TB') : DTW X (.BoolOp .And (a :: b :: rest) pos) (tAnd tA tB') (wAnd TA' TB') := by
  obtain ⟨p, l⟩ := ha
  obtain ⟨p', l'⟩ := hb
  refine ⟨pw_and p p', fun H0 B0 B H σ δ P Q e h q => l H0 B0 B H σ δ _ _ e h fun B1 H1 c s h1 => ?_⟩
  cases c with
  | true => exact l' H0 B0 B1 H1 σ δ P Q (e.mono s) h1 fun B2 H2 b s2 p => q B2 H2 b (s.trans s2) p
  | false => exact q B1 H1 false s h1
theorem dw_or (ha : DT X a tA TA') (hb : DTW X (.BoolOp .Or (b :: rest) pos) tB' TB') : DTW X (.BoolOp .Or (a :: b :: rest) pos) (tOr tA tB') (wOr TA' TB') := by
  obtain ⟨p, l⟩ := ha
  obtain ⟨p', l'⟩ := hb
  refine ⟨pw_or p p', fun H0 B0 B H σ δ P Q e h q => l H0 B0 B H σ δ _ _ e h fun B1 H1 c s h1 => ?_⟩
  cases c with
  | true => exact q B1 H1 true s h1
  | false => exact l' H0 B0 B1 H1 σ δ P Q (e.mono s) h1 fun B2 H2 b s2 p => q B2 H2 b (s.trans s2) p
theorem dt_not (ha : DT X a tA TA') : DT X (.UnaryOp .Not a pos) (tNot tA) (wNot TA') := by
  obtain ⟨p, l⟩ := ha
  exact ⟨pt_not p, fun H0 B0 B H σ δ P Q e h q => l H0 B0 B H σ δ _ _ e h fun B1 H1 c s h1 => q B1 H1 _ s h1⟩
/-- .. as values, all but the last bools -/
def wAndV (Wa Wb : WE) : WE := fun δ P => Wa δ fun d => ∃ c, d = .bl c ∧ if c = true then Wb δ P else P (.bl false)
def wOrV (Wa Wb : WE) : WE := fun δ P => Wa δ fun d => ∃ c, d = .bl c ∧ if c = true then P (.bl true) else Wb δ P
def wNotV (Wa : WE) : WE := fun δ P => Wa δ fun d => ∃ c, d = .bl c ∧ P (.bl (!c))
theorem de_one {op} (ha : DE X a ta Wa) : DE X (.BoolOp op [a] pos) ta Wa := ⟨pe_one ha.p, ha.l⟩
theorem de_and (ha : DE X a ta Wa) (hb : DE X (.BoolOp .And (b :: rest) pos) tb Wb) : DE X (.BoolOp .And (a :: b :: rest) pos) (tAndV ta tb) (wAndV Wa Wb) := by
  obtain ⟨p, l⟩ := ha
  obtain ⟨p', l'⟩ := hb
  refine ⟨pe_and p p', fun H0 B0 B H σ δ P Q e h q => l H0 B0 B H σ δ _ _ e h fun B1 H1 x d s r ⟨c, hd, h1⟩ => ?_⟩
  subst hd
  cases r
  refine ⟨c, rfl, ?_⟩
  cases c with
  | true => exact l' H0 B0 B1 H1 σ δ P Q (e.mono s) h1 fun B2 H2 v d s2 r p => q B2 H2 v d (s.trans s2) r p
  | false => exact q B1 H1 _ _ s (.bl false) h1
theorem de_or (ha : DE X a ta Wa) (hb : DE X (.BoolOp .Or (b :: rest) pos) tb Wb) : DE X (.BoolOp .Or (a :: b :: rest) pos) (tOrV ta tb) (wOrV Wa Wb) := by
  obtain ⟨p, l⟩ := ha
  obtain ⟨p', l'⟩ := hb
  refine ⟨pe_or p p', fun H0 B0 B H σ δ P Q e h q => l H0 B0 B H σ δ _ _ e h fun B1 H1 x d s r ⟨c, hd, h1⟩ => ?_⟩
  subst hd
  cases r
  refine ⟨c, rfl, ?_⟩
  cases c with
  | true => exact q B1 H1 _ _ s (.bl true) h1
  | false => exact l' H0 B0 B1 H1 σ δ P Q (e.mono s) h1 fun B2 H2 v d s2 r p => q B2 H2 v d (s.trans s2) r p
theorem de_not (ha : DE X a ta Wa) : DE X (.UnaryOp .Not a pos) (tNotV ta) (wNotV Wa) := by
  obtain ⟨p, l⟩ := ha
  refine ⟨pe_not p, fun H0 B0 B H σ δ P Q e h q => l H0 B0 B H σ δ _ _ e h fun B1 H1 x d s r ⟨c, hd, h1⟩ => ?_⟩
  subst hd
  cases r
  exact ⟨c, rfl, q B1 H1 _ _ s (.bl _) h1⟩
def wIf (t : WT) (Wa Wb : WE) : WE := fun δ P => t δ fun c => if c = true then Wa δ P else Wb δ P
theorem de_if (hc : DT X c tc TA') (ha : DE X a ta Wa) (hb : DE X b tb Wb) : DE X (.IfExp c a b pos) (tIf tc ta tb) (wIf TA' Wa Wb) := by
  obtain ⟨pc, lc⟩ := hc
  obtain ⟨p, l⟩ := ha
  obtain ⟨p', l'⟩ := hb
  refine ⟨pe_ifExp pc p p', fun H0 B0 B H σ δ P Q e h q => lc H0 B0 B H σ δ _ _ e h fun B1 H1 c s h1 => ?_⟩
  cases c with
  | true => exact l H0 B0 B1 H1 σ δ P Q (e.mono s) h1 fun B2 H2 v d s2 r p => q B2 H2 v d (s.trans s2) r p
  | false => exact l' H0 B0 B1 H1 σ δ P Q (e.mono s) h1 fun B2 H2 v d s2 r p => q B2 H2 v d (s.trans s2) r p
end
end DL
end
section
set_option Elab.async false
set_option linter.all false
set_option maxRecDepth 100000
/-! DL3: arguments, displays, subscripts, statements. -/
namespace DL
open PySem PySem.Spec PyProof.Rows L2

/-! ### arguments -/
section
variable {X : Cx} {e : Expr} {es : List Expr} {ms : List Bool} {te : TE} {t : TA} {We : WE} {Wr : WA} {pos : Pos}
def wNil : WA := fun _ P => P []
def wCons (We : WE) (Wr : WA) : WA := fun δ P => We δ fun d => Wr δ fun ds => P (d :: ds)
theorem da_nil : DA X [] [] tNil wNil := ⟨pa_nil, fun H0 B0 B H σ δ P Q e w q => q B H [] [] (Step.refl e.u) .nil w⟩
theorem da_st (he : DE X e te We) (hr : DA X ms es t Wr) (hs : starEach (e :: es) X.env = (false, eval e X.env) :: starEach es X.env := by rfl) : DA X (true :: ms) (e :: es) (tCons te t) (wCons We Wr) := by
  obtain ⟨p, l⟩ := he
  obtain ⟨p', l'⟩ := hr
  refine ⟨pa_cons p p' hs, fun H0 B0 B H σ δ P Q e h q => l H0 B0 B H σ δ _ _ e h fun B1 H1 x d s1 r1 h1 => l' H0 B0 B1 H1 σ δ _ _ (e.mono s1) h1 fun B2 H2 vs ds s2 r2 h2 => ?_⟩
  exact q B2 H2 _ _ (s1.trans s2) (.st (r1.mono s2.b) r2) h2
theorem da_wk (he : DW X e te We) (hr : DA X ms es t Wr) (hs : starEach (e :: es) X.env = (false, eval e X.env) :: starEach es X.env := by rfl) : DA X (false :: ms) (e :: es) (tCons te t) (wCons We Wr) := by
  obtain ⟨p, l⟩ := he
  obtain ⟨p', l'⟩ := hr
  refine ⟨pa_cons p p' hs, fun H0 B0 B H σ δ P Q e h q => l H0 B0 B H σ δ _ _ e h fun B1 H1 x d s1 r1 h1 => l' H0 B0 B1 H1 σ δ _ _ (e.mono s1) h1 fun B2 H2 vs ds s2 r2 h2 => ?_⟩
  exact q B2 H2 _ _ (s1.trans s2) (.wk (r1.mono s2.b s2.h) r2) h2
/-- all kept -/
def allT : List Bool → Bool
  | [] => true
  | b :: r => b && allT r
theorem ArgsOk.reps {K : PySem.W.Frag} {B H : Hp} : ∀ {ms : List Bool} {vs : List V} {ds : List D}, allT ms = true → ArgsOk K B H ms vs ds → Reps K B vs ds
  | _, _, _, _, .nil => .nil
  | _, _, _, h, .st r t => .cons r (t.reps (by simpa [allT] using h))
  | _, _, _, h, .wk r t => by simp [allT] at h
theorem de_tup {x1} (h : DA X ms es t Wr) (hm : allT ms = true := by rfl) (hl : ms.length ≤ sizeLine := by decide) : DE X (.Tuple es x1 pos) (tTup t) (fun δ P => Wr δ fun ds => P (.tup ds)) := by
  obtain ⟨p, l⟩ := h
  refine ⟨pe_tup p, fun H0 B0 B H σ δ P Q e h q => l H0 B0 B H σ δ _ _ e h fun B1 H1 vs ds s a w => ⟨by rw [a.len]; exact hl, fun p np => ?_⟩⟩
  have s2 := Step.new (o := .tup vs) s.u np
  exact q _ _ _ _ (s.trans s2) (.tup upd_same (Reps.mono s2.b (a.reps hm))) w
theorem df_lst (h : DA X ms es t Wr) (hm : allT ms = true := by rfl) (hl : ms.length ≤ sizeLine := by decide) : DF X (.List es pos) (tLst t) Wr := by
  obtain ⟨p, l⟩ := h
  refine ⟨pe_lst p, fun H0 B0 B H σ δ P Q e h q => l H0 B0 B H σ δ _ _ e h fun B1 H1 vs ds s a w => ⟨by rw [a.len]; exact hl, fun p np => ?_⟩⟩
  have s2 := Step.raw (o := .lst vs) s.u np
  exact q _ _ _ _ _ (s.trans s2) (Same.none s.h np) upd_same (Same.none s.u np) (a.reps hm) w
end

/-! ### subscripts -/
theorem Reps.at {K : PySem.W.Frag} {B : Hp} {xs : List V} {ds : List D} {i : Int} {d : D} (r : Reps K B xs ds) (h : atI ds i = some d) : ∃ v, atI xs i = some v ∧ Rep K B v d := by
  unfold atI at h ⊢
  rw [r.len]
  cases e : ixN ds.length i with
  | none => rw [e] at h; cases h
  | some j =>
    rw [e] at h
    obtain ⟨v, h1, h2⟩ := r.get h
    exact ⟨v, h1, h2⟩
def seqD : D → Option (List D)
  | .lst ds => some ds
  | .tup ds => some ds
  | .scr ns => some (ns.map .int)
  | _ => none
def wIx : D → D → (D → Prop) → Prop := fun a b P => ∃ ds i d, seqD a = some ds ∧ b = .int i ∧ atI ds i = some d ∧ P d
theorem atI_map {α β : Type} (f : α → β) (xs : List α) (i : Int) : atI (xs.map f) i = (atI xs i).map f := by
  unfold atI
  rw [List.length_map]
  cases ixN xs.length i with
  | none => rfl
  | some j => simp
theorem lo_ix {K : PySem.W.Frag} : LO K (rIx K) wIx := fun B H x y a b P Q u r1 r2 h q => by
  obtain ⟨ds, i, d, hs, rfl, hi, p⟩ := h
  have ey := r2.int
  cases r1 with
  | st r1 =>
    cases r1 with
    | lst hb r =>
      cases hs
      obtain ⟨v, h1, h2⟩ := r.at hi
      exact .inl ⟨_, _, i, v, rfl, ey, SqL.of (u _ _ hb), h1, q B H v d (Step.refl u) h2 p⟩
    | tup hb r =>
      cases hs
      obtain ⟨v, h1, h2⟩ := r.at hi
      exact .inr (.inl ⟨_, _, i, v, rfl, ey, SqT.of (u _ _ hb), h1, q B H v d (Step.refl u) h2 p⟩)
    | scr hb =>
      cases hs
      rw [atI_map] at hi
      cases e : atI _ i with
      | none => rw [e] at hi; cases hi
      | some j =>
        rw [e] at hi
        cases hi
        exact .inl ⟨_, _, i, .int j, rfl, ey, u.seq hb, by rw [atI_map, e]; rfl, q B H _ _ (Step.refl u) (.int j) p⟩
    | _ => cases hs
  | ls hb r =>
    cases hs
    obtain ⟨v, h1, h2⟩ := r.at hi
    exact .inl ⟨_, _, i, v, rfl, ey, SqL.of hb, h1, q B H v d (Step.refl u) h2 p⟩
  | dT => cases hs
  | dK => cases hs
section
variable {X : Cx} {a b : Expr} {ta tb : TE} {Wa Wb : WE} {pos : Pos}
theorem de_ix (ha : DW X a ta Wa) (hb : DW X b tb Wb) (hs : PlainIx b := by intro _ _; rfl) : DE X (.Subscript a b pos) (tOp (rIx X.K) ta tb) (wOp wIx Wa Wb) := by
  obtain ⟨pa, la⟩ := ha
  obtain ⟨pb, lb⟩ := hb
  exact ⟨pe_ix ix_seq pa pb hs, la.op lb lo_ix⟩
/-- a slice's parts -/
abbrev WO := St' → (Option Int → Prop) → Prop
def LOp (K : PySem.W.Frag) (t : TO) (W : WO) : Prop := ∀ (H0 B0 B H : Hp) (σ : L2.St) (δ : St') (P : Option Int → Prop) (Q : Option Int → Hp → Prop), Env K H0 B0 B H σ δ → W δ P →
  (∀ B' H' o, Step B H B' H' → P o → Q o H') → t σ H Q
structure DO (X : Cx) (e : Option Expr) (t : TO) (W : WO) : Prop where
  p : PO X e t
  l : LOp X.K t W
def wNoPart : WO := fun _ P => P none
def wPart (W : WE) : WO := fun δ P => W δ fun d => ∃ i, d = .int i ∧ P (some i)
theorem do_none : DO X none tNoPart wNoPart := ⟨po_none, fun H0 B0 B H σ δ P Q e w q => q B H none (Step.refl e.u) w⟩
theorem do_some (ha : DE X a ta Wa) : DO X (some a) (tPart ta) (wPart Wa) := by
  obtain ⟨p, l⟩ := ha
  refine ⟨po_some p, fun H0 B0 B H σ δ P Q e h q => l H0 B0 B H σ δ _ _ e h fun B1 H1 x d s r ⟨i, hd, p⟩ => ?_⟩
  subst hd
  cases r
  exact ⟨i, rfl, q B1 H1 _ s p⟩
def cutD (ds : List D) (lo hi : Option Int) : List D := (ds.drop (HT.sIx ds.length 0 lo)).take (HT.sIx ds.length ds.length hi - HT.sIx ds.length 0 lo)
theorem Reps.cut {K : PySem.W.Frag} {B : Hp} {xs : List V} {ds : List D} (r : Reps K B xs ds) (lo hi : Option Int) : Reps K B (cutV xs lo hi) (cutD ds lo hi) := by
  unfold cutV cutD
  rw [r.len]
  exact (r.drop _).take _
theorem cutD_whole {ds : List D} {lo hi : Option Int} (h1 : HT.sIx ds.length 0 lo = 0) (h2 : HT.sIx ds.length ds.length hi = ds.length) : cutD ds lo hi = ds := by
  unfold cutD
  rw [h1, h2]
  simp
variable {lo hi : Option Expr} {p2 : Pos} {tl th : TO} {Wl Wh : WO}
/-- t[lo:hi] of a tuple -/
theorem de_slT (ha : DW X a ta Wa) (hl : DO X lo tl Wl) (hh : DO X hi th Wh) : DE X (.Subscript a (.Slice lo hi none p2) pos) (tSl (rSlA X.K) ta tl th) (fun δ P => Wa δ fun d => Wl δ fun l => Wh δ fun h => ∃ ds, d = .tup ds ∧ P (.tup (cutD ds l h))) := by
  obtain ⟨pa, la⟩ := ha
  obtain ⟨pl, ll⟩ := hl
  obtain ⟨ph, lh⟩ := hh
  refine ⟨pe_slice sl_tupA pa pl ph, fun H0 B0 B H σ δ P Q e h q => la H0 B0 B H σ δ _ _ e h fun B1 H1 x d s1 r h1 => ll H0 B0 B1 H1 σ δ _ _ (e.mono s1) h1 fun B2 H2 l s2 h2 =>
    lh H0 B0 B2 H2 σ δ _ _ (e.mono (s1.trans s2)) h2 fun B3 H3 u s3 ⟨ds, hd, p⟩ => ?_⟩
  subst hd
  obtain ⟨t, xs, rfl, hb, r⟩ := r.tuple
  have s := (s1.trans s2).trans s3
  have hb3 : B3 t = some (.tup xs) := s3.b _ _ (s2.b _ _ hb)
  have r3 : Reps X.K B3 xs ds := Reps.mono s3.b (Reps.mono s2.b r)
  refine ⟨t, xs, rfl, SqT.of (s3.u _ _ hb3), fun ⟨w1, w2⟩ => ?_, fun _ p' np => ?_⟩
  · rw [r.len] at w1 w2
    rw [cutD_whole w1 w2] at p
    exact q B3 H3 _ _ s (.tup hb3 r3) p
  · have s4 := Step.new (o := .tup (cutV xs l u)) s3.u np
    exact q _ _ _ _ (s.trans s4) (.tup upd_same (Reps.mono s4.b (r3.cut l u))) p
/-- xs[lo:hi] of a list: a new list -/
theorem df_slL (ha : DW X a ta Wa) (hl : DO X lo tl Wl) (hh : DO X hi th Wh) : DF X (.Subscript a (.Slice lo hi none p2) pos) (tSl (rSlL X.K) ta tl th) (fun δ P => Wa δ fun d => Wl δ fun l => Wh δ fun h => ∃ ds, d = .lst ds ∧ P (cutD ds l h)) := by
  obtain ⟨pa, la⟩ := ha
  obtain ⟨pl, ll⟩ := hl
  obtain ⟨ph, lh⟩ := hh
  refine ⟨pe_slice sl_list pa pl ph, fun H0 B0 B H σ δ P Q e h q => la H0 B0 B H σ δ _ _ e h fun B1 H1 x d s1 r h1 => ll H0 B0 B1 H1 σ δ _ _ (e.mono s1) h1 fun B2 H2 l s2 h2 =>
    lh H0 B0 B2 H2 σ δ _ _ (e.mono (s1.trans s2)) h2 fun B3 H3 u s3 ⟨ds, hd, p⟩ => ?_⟩
  subst hd
  obtain ⟨t, xs, rfl, hb, r⟩ := r.list s1.u
  have s := (s1.trans s2).trans s3
  have r3 : Reps X.K B3 xs ds := Reps.mono s3.b (Reps.mono s2.b r)
  refine ⟨t, xs, rfl, SqL.of (s3.h _ _ (s2.h _ _ hb)), fun p' np => ?_⟩
  have s4 := Step.raw (o := .lst (cutV xs l u)) s3.u np
  exact q _ _ _ _ _ (s.trans s4) (Same.none s.h np) upd_same (Same.none s3.u np) (r3.cut l u) p
end

/-! ### slots stored -/
theorem Env.put {K : PySem.W.Frag} {H0 B0 B H : Hp} {σ : L2.St} {δ : St'} (e : Env K H0 B0 B H σ δ) {i : Nat} {v : V} {s : Sl} (hs : SlOk K H0 B H (some v) s)
    (hn : ∀ a, s.own = some a → ∀ (j : Nat) (t : Sl), δ[j]? = some t → j ≠ i → t.own ≠ some a) : Env K H0 B0 B H (σ.set i (some v)) (δ.set i s) := by
  have hl := e.len
  refine ⟨e.step, by rw [List.length_set, List.length_set, hl], fun j t ht => ?_, fun j k t u a ht hu ot ou => ?_⟩
  · by_cases hj : i = j
    · subst hj
      have hlt : i < δ.length := by
        rw [List.getElem?_set_self'] at ht
        cases q : δ[i]? with
        | none => rw [q] at ht; cases ht
        | some _ => exact (List.getElem?_eq_some_iff.mp q).1
      rw [List.getElem?_set_self hlt] at ht
      cases ht
      exact ⟨_, List.getElem?_set_self (by rw [hl]; exact hlt), hs⟩
    · rw [List.getElem?_set_ne hj] at ht
      rw [List.getElem?_set_ne hj]
      exact e.sl j t ht
  · by_cases hj : i = j
    · by_cases hk : i = k
      · rw [← hj, ← hk]
      · exfalso
        rw [List.getElem?_set_ne hk] at hu
        subst hj
        have hlt : i < δ.length := by
          rw [List.getElem?_set_self'] at ht
          cases q : δ[i]? with
          | none => rw [q] at ht; cases ht
          | some _ => exact (List.getElem?_eq_some_iff.mp q).1
        rw [List.getElem?_set_self hlt] at ht
        cases ht
        exact hn a ot k u hu (fun z => hk z.symm) ou
    · rw [List.getElem?_set_ne hj] at ht
      by_cases hk : i = k
      · exfalso
        subst hk
        have hlt : i < δ.length := by
          rw [List.getElem?_set_self'] at hu
          cases q : δ[i]? with
          | none => rw [q] at hu; cases hu
          | some _ => exact (List.getElem?_eq_some_iff.mp q).1
        rw [List.getElem?_set_self hlt] at hu
        cases hu
        exact hn a ou j t ht (fun z => hj z.symm) ot
      · rw [List.getElem?_set_ne hk] at hu
        exact e.nd j k t u a ht hu ot ou
theorem Env.st {K : PySem.W.Frag} {H0 B0 B H : Hp} {σ : L2.St} {δ : St'} (e : Env K H0 B0 B H σ δ) (i : Nat) {v : V} {d : D} (r : Rep K B v d) : Env K H0 B0 B H (σ.set i (some v)) (δ.set i (.st d)) :=
  e.put (s := .st d) ⟨v, rfl, r⟩ fun a z => nomatch z
/-- what is owned stands in the heap -/
theorem Env.owned {K : PySem.W.Frag} {H0 B0 B H : Hp} {σ : L2.St} {δ : St'} (e : Env K H0 B0 B H σ δ) {j : Nat} {t : Sl} {a : Addr} (h : δ[j]? = some t) (o : t.own = some a) : H a ≠ none ∧ B a = none ∧ H0 a = none := by
  obtain ⟨v, _, x⟩ := e.sl j t h
  cases t with
  | ow b ds => cases o; obtain ⟨_, z, y, xs, q, _⟩ := x; exact ⟨by rw [q]; exact (fun w => nomatch w), z, y⟩
  | oT b ds => cases o; obtain ⟨_, z, y, xs, q, _⟩ := x; exact ⟨by rw [q]; exact (fun w => nomatch w), z, y⟩
  | oK b ds => cases o; obtain ⟨_, z, y, xs, q, _⟩ := x; exact ⟨by rw [q]; exact (fun w => nomatch w), z, y⟩
  | oI b C ds => cases o; obtain ⟨_, z, y, xs, fs, q, _⟩ := x; exact ⟨by rw [q]; exact (fun w => nomatch w), z, y⟩
  | _ => cases o
/-- an own object is written -/
theorem Env.wr {K : PySem.W.Frag} {H0 B0 B H : Hp} {σ : L2.St} {δ : St'} (e : Env K H0 B0 B H σ δ) {i : Nat} {t s : Sl} {a : Addr} {o : HO} (h : δ[i]? = some t) (ot : t.own = some a) (os : s.own = some a)
    (hs : ∀ v, σ[i]? = some (some v) → v = .ref a → SlOk K H0 B (upd H a o) (some v) s) : Env K H0 B0 B (upd H a o) σ (δ.set i s) := by
  obtain ⟨hH, hB, hH0⟩ := e.owned h ot
  have hl := e.len
  have hlt : i < δ.length := (List.getElem?_eq_some_iff.mp h).1
  have ne0 : ∀ b, H0 b ≠ none → b ≠ a := fun b z w => by rw [w, hH0] at z; exact z rfl
  refine ⟨⟨fun b x z => ?_, e.step.b, fun b x z => ?_, fun b z => e.step.n b z⟩, by rw [List.length_set, hl], fun j u hu => ?_, fun j k u w b hu hw ou ow => ?_⟩
  · rw [upd_ne (ne0 b (by rw [z]; exact (fun w => nomatch w)))]
    exact e.step.h _ _ z
  · rw [upd_ne (ne_of_none z hB)]
    exact e.step.u _ _ z
  · by_cases hj : i = j
    · subst hj
      rw [List.getElem?_set_self hlt] at hu
      cases hu
      obtain ⟨v, hv, x⟩ := e.sl i t h
      have hv2 : v = some (.ref a) := by
        cases t with
        | ow b ds => cases ot; exact x.1
        | oT b ds => cases ot; exact x.1
        | oK b ds => cases ot; exact x.1
        | oI b C ds => cases ot; exact x.1
        | _ => cases ot
      subst hv2
      exact ⟨_, hv, hs _ hv rfl⟩
    · rw [List.getElem?_set_ne hj] at hu
      obtain ⟨v, hv, x⟩ := e.sl j u hu
      refine ⟨v, hv, ?_⟩
      have na : ∀ b, u.own = some b → b ≠ a := fun b z w => hj (e.nd i j t u a h hu ot (by rw [z, w]))
      cases u with
      | no => trivial
      | st d => exact x
      | wk d => exact x
      | ow b ds => obtain ⟨e1, e2, e3, xs, q, r⟩ := x; exact ⟨e1, e2, e3, xs, by rw [upd_ne (na b rfl)]; exact q, r⟩
      | oT b ds => obtain ⟨e1, e2, e3, xs, q, r⟩ := x; exact ⟨e1, e2, e3, xs, by rw [upd_ne (na b rfl)]; exact q, r⟩
      | oK b ds => obtain ⟨e1, e2, e3, xs, q, r⟩ := x; exact ⟨e1, e2, e3, xs, by rw [upd_ne (na b rfl)]; exact q, r⟩
      | oI b C ds => obtain ⟨e1, e2, e3, dx, fs, q, r⟩ := x; exact ⟨e1, e2, e3, dx, fs, by rw [upd_ne (na b rfl)]; exact q, r⟩
  · have lift : ∀ (j : Nat) (u : Sl), (δ.set i s)[j]? = some u → u.own = some b → ∃ u', δ[j]? = some u' ∧ u'.own = some b := fun j u hu ou => by
      by_cases hj : i = j
      · subst hj
        rw [List.getElem?_set_self hlt] at hu
        cases hu
        exact ⟨t, h, by rw [ot, ← ou, os]⟩
      · rw [List.getElem?_set_ne hj] at hu
        exact ⟨u, hu, ou⟩
    obtain ⟨u', h1, o1⟩ := lift j u hu ou
    obtain ⟨w', h2, o2⟩ := lift k w hw ow
    exact e.nd j k u' w' b h1 h2 o1 o2

/-! ### freezing -/
def frzS : Sl → Sl
  | .ow _ ds => .st (.lst ds)
  | .oT _ gs => .st (.dT gs)
  | .oK _ gs => .st (.dK gs)
  | .oI _ C gs => .st (.ins C gs)
  | s => s
def frz (i : Nat) (δ : St') : St' := match δ[i]? with
  | some s => δ.set i (frzS s)
  | none => δ
theorem Env.frz {K : PySem.W.Frag} {H0 B0 B H : Hp} {σ : L2.St} {δ : St'} (e : Env K H0 B0 B H σ δ) (i : Nat) : ∃ B', Same B B' ∧ Env K H0 B0 B' H σ (frz i δ) := by
  unfold DL.frz
  cases h : δ[i]? with
  | none => exact ⟨B, Same.refl B, e⟩
  | some t =>
    dsimp only
    have hlt : i < δ.length := (List.getElem?_eq_some_iff.mp h).1
    cases ot : t.own with
    | none =>
      have : frzS t = t := by cases t <;> first | rfl | (cases ot)
      rw [this]
      refine ⟨B, Same.refl B, ?_⟩
      have : δ.set i t = δ := by
        obtain ⟨h1, h2⟩ := List.getElem?_eq_some_iff.mp h
        rw [← h2, List.set_getElem_self]
      rw [this]
      exact e
    | some a =>
      obtain ⟨hH, hB, hH0⟩ := e.owned h ot
      cases ha : H a with
      | none => exact absurd ha hH
      | some o =>
        have sb : Same B (upd B a o) := same_upd hB
        refine ⟨upd B a o, sb, e.step.freeze hH0 ha hB, by rw [List.length_set]; exact e.len, fun j u hu => ?_, fun j k u w b hu hw ou ow => ?_⟩
        · by_cases hj : i = j
          · subst hj
            rw [List.getElem?_set_self hlt] at hu
            cases hu
            obtain ⟨v, hv, x⟩ := e.sl i t h
            refine ⟨v, hv, ?_⟩
            cases t with
            | ow b ds => cases ot; obtain ⟨e1, e2, e3, xs, q, r⟩ := x; rw [ha] at q; cases q; exact ⟨_, e1, .lst upd_same (Reps.mono sb r)⟩
            | oT b ds => cases ot; obtain ⟨e1, e2, e3, xs, q, r⟩ := x; rw [ha] at q; cases q; exact ⟨_, e1, .dT upd_same (RepT.mono sb r)⟩
            | oK b ds => cases ot; obtain ⟨e1, e2, e3, xs, q, r⟩ := x; rw [ha] at q; cases q; exact ⟨_, e1, .dK upd_same (RepK.mono sb r)⟩
            | oI b C ds => cases ot; obtain ⟨e1, e2, e3, dx, fs, q, r⟩ := x; rw [ha] at q; cases q; exact ⟨_, e1, .ins upd_same (RepF.mono sb r)⟩
            | _ => cases ot
          · rw [List.getElem?_set_ne hj] at hu
            obtain ⟨v, hv, x⟩ := e.sl j u hu
            refine ⟨v, hv, ?_⟩
            have na : ∀ b, u.own = some b → b ≠ a := fun b z w => hj (e.nd i j t u a h hu ot (by rw [z, w]))
            cases u with
            | no => trivial
            | st d => obtain ⟨v, e1, r⟩ := x; exact ⟨v, e1, r.mono sb⟩
            | wk d => obtain ⟨v, e1, r⟩ := x; exact ⟨v, e1, r.mono sb (Same.refl _)⟩
            | ow b ds => obtain ⟨e1, e2, e3, xs, q, r⟩ := x; exact ⟨e1, by rw [upd_ne (na b rfl)]; exact e2, e3, xs, q, Reps.mono sb r⟩
            | oT b ds => obtain ⟨e1, e2, e3, xs, q, r⟩ := x; exact ⟨e1, by rw [upd_ne (na b rfl)]; exact e2, e3, xs, q, RepT.mono sb r⟩
            | oK b ds => obtain ⟨e1, e2, e3, xs, q, r⟩ := x; exact ⟨e1, by rw [upd_ne (na b rfl)]; exact e2, e3, xs, q, RepK.mono sb r⟩
            | oI b C ds => obtain ⟨e1, e2, e3, dx, fs, q, r⟩ := x; exact ⟨e1, by rw [upd_ne (na b rfl)]; exact e2, e3, dx, fs, q, RepF.mono sb r⟩
        · have nf : ∀ u, u = frzS t → u.own = none := fun u z => by subst z; cases t <;> first | rfl | (cases ot)
          have lift : ∀ (j : Nat) (u : Sl), (δ.set i (frzS t))[j]? = some u → u.own = some b → δ[j]? = some u := fun j u hu ou => by
            by_cases hj : i = j
            · subst hj
              rw [List.getElem?_set_self hlt] at hu
              cases hu
              rw [nf _ rfl] at ou
              cases ou
            · rw [List.getElem?_set_ne hj] at hu
              exact hu
          exact e.nd j k u w b (lift j u hu ou) (lift k w hw ow) ou ow

/-! ### statements -/
section
variable {X : Cx} {st : Stmt} {rest : List Stmt} {t u : TS} {W W' : WS} {e : Expr} {te : TE} {We : WE} {pos : Pos}
def wNext : WS := fun P δ => P.nx δ
def wSeq (t u : WS) : WS := fun P δ => t { P with nx := u P } δ
theorem dss_nil : DSs X [] tNext wNext := ⟨pss_nil, fun H0 B0 B H σ δ P E e h q _ _ _ => q B H σ δ (Same.refl B) e h⟩
theorem dss_one (h : DS X st t W) : DSs X [st] t W := ⟨pss_one h.p, h.l⟩
theorem dss_cons (h : DS X st t W) (h2 : DSs X rest u W') : DSs X (st :: rest) (tSeq t u) (wSeq W W') := by
  obtain ⟨p, l⟩ := h
  obtain ⟨p', l'⟩ := h2
  refine ⟨pss_cons p p', fun H0 B0 B H σ δ P E e h q1 q2 q3 q4 => l H0 B0 B H σ δ { P with nx := W' P } { E with nx := u E } e h (fun B1 H1 σ1 δ1 sb e1 h1 => ?_) q2 q3 q4⟩
  exact l' H0 B0 B1 H1 σ1 δ1 P E e1 h1 (fun B2 H2 σ2 δ2 sb2 => q1 B2 H2 σ2 δ2 (sb.trans sb2)) q2 (fun B2 H2 σ2 δ2 sb2 => q3 B2 H2 σ2 δ2 (sb.trans sb2)) (fun B2 H2 σ2 δ2 sb2 => q4 B2 H2 σ2 δ2 (sb.trans sb2))
/-- ahead of a block: the i-th slot's own object is frozen -/
theorem dss_frz (i : Nat) (h : DSs X rest t W) : DSs X rest t (fun P δ => W P (frz i δ)) := by
  obtain ⟨p, l⟩ := h
  refine ⟨p, fun H0 B0 B H σ δ P E e h q1 q2 q3 q4 => ?_⟩
  obtain ⟨B1, sb, e1⟩ := e.frz i
  exact l H0 B0 B1 H σ (frz i δ) P E e1 h (fun B2 H2 σ2 δ2 sb2 => q1 B2 H2 σ2 δ2 (sb.trans sb2)) q2 (fun B2 H2 σ2 δ2 sb2 => q3 B2 H2 σ2 δ2 (sb.trans sb2)) (fun B2 H2 σ2 δ2 sb2 => q4 B2 H2 σ2 δ2 (sb.trans sb2))
theorem ds_pass : DS X (.Pass pos) tNext wNext := ⟨ps_pass, fun H0 B0 B H σ δ P E e h q _ _ _ => q B H σ δ (Same.refl B) e h⟩
theorem ds_break : DS X (.Break pos) tBreak (fun P δ => P.bk δ) := ⟨ps_break, fun H0 B0 B H σ δ P E e h _ _ q _ => q B H σ δ (Same.refl B) e h⟩
theorem ds_continue : DS X (.Continue pos) tCont (fun P δ => P.ct δ) := ⟨ps_continue, fun H0 B0 B H σ δ P E e h _ _ _ q => q B H σ δ (Same.refl B) e h⟩
theorem ds_never : DS X st tNever (fun _ _ => False) := ⟨ps_never, fun H0 B0 B H σ δ P E e h _ _ _ _ => h.elim⟩
theorem dss_never {sts : List Stmt} : DSs X sts tNever (fun _ _ => False) := ⟨pss_never, fun H0 B0 B H σ δ P E e h _ _ _ _ => h.elim⟩
theorem ds_ret (he : DE X e te We) : DS X (.Return (some e) pos) (tRet te) (fun P δ => We δ P.rt) := by
  obtain ⟨p, l⟩ := he
  exact ⟨ps_ret p, fun H0 B0 B H σ δ P E e h _ q _ _ => l H0 B0 B H σ δ _ _ e h fun B1 H1 v d s r w => q B1 H1 v d (e.step.trans s) r w⟩
theorem ds_retN : DS X (.Return none pos) tRetN (fun P δ => P.rt .non) := ⟨ps_retN, fun H0 B0 B H σ δ P E e h _ q _ _ => q B H _ _ e.step .non h⟩
def wIfS (c : WT) (t u : WS) : WS := fun P δ => c δ fun b => if b = true then t P δ else u P δ
theorem ds_if {c : Expr} {a b : List Stmt} {tc : TT} {Wc : WT} (hc : DT X c tc Wc) (ha : DSs X a t W) (hb : DSs X b u W') : DS X (.If c a b pos) (tIfS tc t u) (wIfS Wc W W') := by
  obtain ⟨pc, lc⟩ := hc
  obtain ⟨p, l⟩ := ha
  obtain ⟨p', l'⟩ := hb
  refine ⟨ps_if pc p p', fun H0 B0 B H σ δ P E e h q1 q2 q3 q4 => lc H0 B0 B H σ δ _ _ e h fun B1 H1 b s h1 => ?_⟩
  cases b with
  | true => exact l H0 B0 B1 H1 σ δ P E (e.mono s) h1 (fun B2 H2 σ2 δ2 sb2 => q1 B2 H2 σ2 δ2 (s.b.trans sb2)) q2 (fun B2 H2 σ2 δ2 sb2 => q3 B2 H2 σ2 δ2 (s.b.trans sb2)) (fun B2 H2 σ2 δ2 sb2 => q4 B2 H2 σ2 δ2 (s.b.trans sb2))
  | false => exact l' H0 B0 B1 H1 σ δ P E (e.mono s) h1 (fun B2 H2 σ2 δ2 sb2 => q1 B2 H2 σ2 δ2 (s.b.trans sb2)) q2 (fun B2 H2 σ2 δ2 sb2 => q3 B2 H2 σ2 δ2 (s.b.trans sb2)) (fun B2 H2 σ2 δ2 sb2 => q4 B2 H2 σ2 δ2 (s.b.trans sb2))
/-! targets -/
def gNm (i : Nat) : WG := fun d δ P => P (δ.set i (.st d))
theorem Agree.set (i : Nat) (o : Option V) (d : D) (σ : L2.St) (δ : St') : Agree [i] σ δ (σ.set i o) (δ.set i (.st d)) :=
  ⟨by rw [List.length_set], fun j hj => List.getElem?_set_ne (fun z => hj (by rw [z]; exact List.mem_singleton.mpr rfl)), fun j s a hs os => by
    by_cases hj : i = j
    · subst hj
      have hlt : i < δ.length := by
        have := (List.getElem?_eq_some_iff.mp hs).1
        rwa [List.length_set] at this
      rw [List.getElem?_set_self hlt] at hs
      cases hs
      cases os
    · rw [List.getElem?_set_ne hj] at hs
      exact ⟨j, s, hs, os⟩⟩
theorem Agree.refl (ts : List Nat) (σ : L2.St) (δ : St') : Agree ts σ δ σ δ := ⟨rfl, fun _ _ => rfl, fun j s a h o => ⟨j, s, h, o⟩⟩
theorem Agree.trans {ts us : List Nat} {σ σ1 σ2 : L2.St} {δ δ1 δ2 : St'} (a : Agree ts σ δ σ1 δ1) (b : Agree us σ1 δ1 σ2 δ2) : Agree (ts ++ us) σ δ σ2 δ2 :=
  ⟨b.len.trans a.len, fun j hj => (b.at_ j fun z => hj (List.mem_append_right _ z)).trans (a.at_ j fun z => hj (List.mem_append_left _ z)), fun j s x h o => let ⟨k, t, h', o'⟩ := b.own j s x h o; a.own k t x h' o'⟩
theorem dg_name {i : Nat} {x : Str} (hN : X.N.Nodup) (hi : X.N[i]? = some x := by rfl) (hx : Loc X.env.scope x := by first | exact Or.inl rfl | exact Or.inr rfl) (hf : X.fn x = true ∨ X.env.scope.names.lookup x = some .local := by first | exact .inl rfl | exact .inr rfl) : DG X (.Name x pos) (gName i) [i] (gNm i) :=
  ⟨pg_name hN hi hx hf, fun H0 B0 B H σ δ v d P Q e r h q => q _ _ (Agree.set i _ _ σ δ) (e.st i r) h⟩
abbrev WGs := List D → St' → (St' → Prop) → Prop
def LGs (K : PySem.W.Frag) (g : TGs) (ts : List Nat) (W : WGs) : Prop := ∀ (H0 B0 B H : Hp) (σ : L2.St) (δ : St') (vs : List V) (ds : List D) (P : St' → Prop) (Q : L2.St → Hp → Prop), Env K H0 B0 B H σ δ → Reps K B vs ds → W ds δ P →
  (∀ σ' δ', Agree ts σ δ σ' δ' → Env K H0 B0 B H σ' δ' → P δ' → Q σ' H) → g vs σ H Q
structure DGs (X : Cx) (es : List Expr) (g : TGs) (ts : List Nat) (W : WGs) : Prop where
  p : PGs X es g
  l : LGs X.K g ts W
def gsNil : WGs := fun ds δ P => ds = [] ∧ P δ
def gsCons (g : WG) (u : WGs) : WGs := fun ds δ P => ∃ d r, ds = d :: r ∧ g d δ fun δ' => u r δ' P
theorem dgs_nil : DGs X [] gNil [] gsNil := by
  refine ⟨pgs_nil, fun H0 B0 B H σ δ vs ds P Q e r h q => ?_⟩
  obtain ⟨rfl, h⟩ := h
  cases r
  exact ⟨rfl, q σ δ (Agree.refl _ _ _) e h⟩
theorem dgs_cons {e : Expr} {es : List Expr} {g : TG} {u : TGs} {Wg : WG} {Wu : WGs} {ts us : List Nat} (h1 : DG X e g ts Wg) (h2 : DGs X es u us Wu)
    (hs : (assignEach (e :: es) X.env).map (fun x => x.2) = assign e X.env :: (assignEach es X.env).map (fun x => x.2) := by rfl) : DGs X (e :: es) (gCons g u) (ts ++ us) (gsCons Wg Wu) := by
  refine ⟨pgs_cons h1.p h2.p hs, fun H0 B0 B H σ δ vs ds P Q e r h q => ?_⟩
  obtain ⟨d, ds', rfl, h⟩ := h
  cases r with
  | cons r1 r2 => exact ⟨_, _, rfl, h1.l H0 B0 B H σ δ _ d _ _ e r1 h fun σ1 δ1 a1 e1 h1' => h2.l H0 B0 B H σ1 δ1 _ ds' P Q e1 r2 h1' fun σ2 δ2 a2 => q σ2 δ2 (a1.trans a2)⟩
def gTp (n : Nat) (u : WGs) : WG := fun d δ P => ∃ ds, d = .tup ds ∧ ds.length = n ∧ u ds δ P
theorem dg_tup {es : List Expr} {k : Nat} {u : TGs} {Wu : WGs} {ts : List Nat} {n : Nat} (hc : X.calm = true) (h : DGs X es u ts Wu) (hn : (assignEach es X.env).length = n := by rfl) (hst : (assignEach es X.env).findIdx? (fun x => x.1) = none := by rfl) :
    DG X (.Tuple es k pos) (gTup X.K n u) ts (gTp n Wu) := by
  refine ⟨pg_tup hc h.p hn hst, fun H0 B0 B H σ δ v d P Q e r h' q => ?_⟩
  obtain ⟨ds, rfl, hl, h'⟩ := h'
  obtain ⟨a, xs, rfl, hb, rs⟩ := r.tuple
  exact ⟨a, xs, rfl, SqT.of (e.u _ _ hb), by rw [rs.len]; exact hl, h.l H0 B0 B H σ δ xs ds P Q e rs h' q⟩
/-- target = e -/
theorem ds_asg {tg : Expr} {g : TG} {Wg : WG} {ts : List Nat} (he : DE X e te We) (hg : DG X tg g ts Wg) (hs : swapsWithSole [tg] e pos.line X.env = pure false := by rfl) (hw : swappedStores [tg] e X.env = pure none := by rfl)
    (ha : (assignEach [tg] X.env).map (fun x => x.2) = [assign tg X.env] := by rfl) : DS X (.Assign [tg] e pos) (tAsg te g) (fun P δ => We δ fun d => Wg d δ P.nx) := by
  refine ⟨ps_asg he.p hg.p hs hw ha, fun H0 B0 B H σ δ P E e h q _ _ _ => he.l H0 B0 B H σ δ _ _ e h fun B1 H1 v d s r w => ?_⟩
  exact hg.l H0 B0 B1 H1 σ δ v d _ _ (e.mono s) r w fun σ' δ' _ e' w' => q B1 H1 σ' δ' s.b e' w'
/-- x = e -/
theorem ds_set {i : Nat} {x : Str} {p' : Pos} (hN : X.N.Nodup) (he : DE X e te We) (hi : X.N[i]? = some x := by rfl) (hx : Loc X.env.scope x := by first | exact Or.inl rfl | exact Or.inr rfl) (hs : swapsWith e (some (.Name x p')) pos.line X.env = pure false := by rfl)
    (hf : X.fn x = true ∨ X.env.scope.names.lookup x = some .local := by first | exact .inl rfl | exact .inr rfl) : DS X (.Assign [.Name x p'] e pos) (tAsg te (gName i)) (fun P δ => We δ fun d => P.nx (δ.set i (.st d))) := by
  refine ⟨ps_set hN hi hx he.p hs hf, fun H0 B0 B H σ δ P E e h q _ _ _ => he.l H0 B0 B H σ δ _ _ e h fun B1 H1 v d s r w => ?_⟩
  exact q B1 H1 _ _ s.b ((e.mono s).st i r) w
/-- what a fresh list is, in a slot -/
theorem Env.ownL {K : PySem.W.Frag} {H0 B0 B H B' H' : Hp} {σ : L2.St} {δ : St'} (e : Env K H0 B0 B H σ δ) (s : Step B H B' H') (i : Nat) {a : Addr} {xs : List V} {ds : List D} (h0 : H a = none) (h1 : H' a = some (.lst xs)) (h2 : B' a = none) (r : Reps K B' xs ds) :
    Env K H0 B0 B' H' (σ.set i (some (.ref a))) (δ.set i (.ow a ds)) := by
  refine (e.mono s).put (s := .ow a ds) ⟨rfl, h2, Same.none e.step.h h0, xs, h1, r⟩ fun b z j t ht _ ot => ?_
  cases z
  exact (e.owned ht ot).1 h0
/-- x = e, a list of one's own -/
theorem ds_own {i : Nat} {x : Str} {p' : Pos} {Wf : WA} (hN : X.N.Nodup) (he : DF X e te Wf) (hi : X.N[i]? = some x := by rfl) (hx : Loc X.env.scope x := by first | exact Or.inl rfl | exact Or.inr rfl) (hs : swapsWith e (some (.Name x p')) pos.line X.env = pure false := by rfl)
    (hf : X.fn x = true ∨ X.env.scope.names.lookup x = some .local := by first | exact .inl rfl | exact .inr rfl) : DS X (.Assign [.Name x p'] e pos) (tAsg te (gName i)) (fun P δ => Wf δ fun ds => ∀ a, P.nx (δ.set i (.ow a ds))) := by
  refine ⟨ps_set hN hi hx he.p hs hf, fun H0 B0 B H σ δ P E e h q _ _ _ => he.l H0 B0 B H σ δ _ _ e h fun B1 H1 a xs ds s h0 h1 h2 r w => ?_⟩
  exact q B1 H1 _ _ s.b (e.ownL s i h0 h1 h2 r) (w a)
/-- a, b = e1, e2 -/
def wPar (i j : Nat) (Wr : WA) : WS := fun P δ => Wr δ fun ds => ∃ d d', ds = [d, d'] ∧ P.nx ((δ.set i (.st d)).set j (.st d'))
theorem ds_par {i j : Nat} {x y : Str} {a b : Expr} {ta : TA} {Wr : WA} {ms : List Bool} {px py pt : Pos} {kt k2 : Nat} {pt2 : Pos} (hc : X.calm = true) (hN : X.N.Nodup) (h : DA X ms [a, b] ta Wr) (hm : allT ms = true := by rfl) (hi : X.N[i]? = some x := by rfl) (hj : X.N[j]? = some y := by rfl)
    (hij : i ≠ j := by decide) (hx : X.env.scope.names.lookup x = some .local := by rfl) (hy : X.env.scope.names.lookup y = some .local := by rfl)
    (h1 : swappedStores [.Tuple [.Name x px, .Name y py] kt pt] (.Tuple [a, b] k2 pt2) X.env = pure (some [x, y]) := by rfl) (h2 : swapsWithSole [.Tuple [.Name x px, .Name y py] kt pt] (.Tuple [a, b] k2 pt2) pos.line X.env = pure false := by rfl) :
    DS X (.Assign [.Tuple [.Name x px, .Name y py] kt pt] (.Tuple [a, b] k2 pt2) pos) (tPar i j ta) (wPar i j Wr) := by
  refine ⟨ps_par hc hN hi hj hij hx hy h.p h1 h2, fun H0 B0 B H σ δ P E e h' q _ _ _ => h.l H0 B0 B H σ δ _ _ e h' fun B1 H1 vs ds s r w => ?_⟩
  obtain ⟨d, d', rfl, w⟩ := w
  have r := r.reps hm
  cases r with
  | cons r1 r2 =>
    cases r2 with
    | cons r2 r3 =>
      cases r3
      exact ⟨_, _, rfl, q B1 H1 _ _ s.b (((e.mono s).st i r1).st j r2) w⟩
/-- x += e -/
def wAug (i : Nat) (w : D → D → (D → Prop) → Prop) (We : WE) : WS := fun P δ => ∃ d, δ[i]? = some (.st d) ∧ We δ fun d' => w d d' fun r => P.nx (δ.set i (.st r))
theorem ds_aug {i : Nat} {x : Str} {p' : Pos} {op : Operator} {f : Int → Int → Int} (hN : X.N.Nodup) (he : DE X e te We) (ho : PIp X op (ipI f)) (hi : X.N[i]? = some x := by rfl) (hx : Loc X.env.scope x := by first | exact Or.inl rfl | exact Or.inr rfl)
    (hf : X.fn x = true ∨ X.env.scope.names.lookup x = some .local := by first | exact .inl rfl | exact .inr rfl) : DS X (.AugAssign (.Name x p') op e pos) (tAug i te (ipI f)) (wAug i (wI0 fun a b => .int (f a b)) We) := by
  refine ⟨ps_aug hN hi hx he.p ho hf, fun H0 B0 B H σ δ P E e h q _ _ _ => ?_⟩
  obtain ⟨d, hd, h⟩ := h
  obtain ⟨o, ho', v, hv, r⟩ := e.sl i _ hd
  subst hv
  refine ⟨v, ho', he.l H0 B0 B H σ δ _ _ e h fun B1 H1 v' d' s r' w => ?_⟩
  obtain ⟨a, b, rfl, rfl, w⟩ := w
  cases r
  cases r'
  exact ⟨a, b, rfl, rfl, q B1 H1 _ _ s.b ((e.mono s).st i (.int _)) w⟩
/-- e alone -/
theorem ds_expr (he : DW X e te We) (hs : swapsWith e none pos.line X.env = pure false := by rfl) : DS X (.Expr e pos) (tDrop te) (fun P δ => We δ fun _ => P.nx δ) :=
  ⟨ps_expr he.p hs, fun H0 B0 B H σ δ P E e h q _ _ _ => he.l H0 B0 B H σ δ _ _ e h fun B1 H1 v d s r w => q B1 H1 σ δ s.b (e.mono s) w⟩
/-- xs.append(e), xs one's own -/
def wApp (i : Nat) (We : WE) : WS := fun P δ => We δ fun d => ∃ a ds, δ[i]? = some (.ow a ds) ∧ ds.length < sizeLine ∧ P.nx (δ.set i (.ow a (ds ++ [d])))
theorem Env.look {K : PySem.W.Frag} {H0 B0 B H : Hp} {σ : L2.St} {δ : St'} (e : Env K H0 B0 B H σ δ) {i : Nat} {a : Addr} {ds : List D} (h : δ[i]? = some (.ow a ds)) : σ[i]? = some (some (.ref a)) ∧ B a = none ∧ H0 a = none ∧ ∃ xs, H a = some (.lst xs) ∧ Reps K B xs ds := by
  obtain ⟨o, ho, rfl, x⟩ := e.sl i _ h
  exact ⟨ho, x⟩
/-- whatever an evaluation gives: the slots are as they were -/
theorem ds_app {i : Nat} {x : Str} {px apos cpos : Pos} (he : DE X e te We) (hi : X.N[i]? = some x := by rfl) (hv : Vis X.env.scope x := by first | exact Or.inl rfl | exact Or.inr (Or.inl rfl) | exact Or.inr (Or.inr rfl))
    (hd : (x == ("__debug__" : Str)) = false := by decide) (hcd : (x == ("__classdict__" : Str)) = false := by decide) (hsa : starEach (e :: []) X.env = (false, eval e X.env) :: starEach [] X.env := by rfl)
    (hbase : attributeBase (.Name x px) "append" X.env (eval (.Name x px) X.env) = eval (.Name x px) X.env := by rfl)
    (hfew : ((backTo cpos (starEach (e :: []) X.env)).all (fun x => !x.1) && (backToKw cpos (keywordEach [] X.env)).all (fun x => x.1.isSome)
      && decide ((e :: []).length + ([] : List Keyword).length + (if ([] : List Keyword).isEmpty then 0 else 1) < 30)) = true := by rfl)
    (hline : (apos.endLine == cpos.line) = true := by rfl) (hplain : (backTo cpos (starEach [] X.env)).any (·.1) = false := by rfl)
    (hs : swapsWith (.Call (.Attribute (.Name x px) "append" apos) [e] [] cpos) none pos.line X.env = pure false := by rfl) :
    DS X (.Expr (.Call (.Attribute (.Name x px) "append" apos) [e] [] cpos) pos) (tDrop (tBM X.K "list" rAppend (tVar i) (tCons te tNil)))
      (fun P δ => ∃ a ds, δ[i]? = some (.ow a ds) ∧ We δ fun d => ds.length < sizeLine ∧ P.nx (δ.set i (.ow a (ds ++ [d])))) := by
  refine ⟨ps_expr (pe_bm PySem.F.plainAttrs_list PySem.F.slot_list_append PySem.F.type_list_append mt_append (pe_var hi hv hd hcd) (pa_cons he.p pa_nil hsa) hbase hfew hline hsa hplain) hs, fun H0 B0 B H σ δ P E e h q _ _ _ => ?_⟩
  obtain ⟨a, ds, hx, h⟩ := h
  obtain ⟨hσ, _, _, xs, hH, r⟩ := e.look hx
  refine ⟨_, hσ, .inl ⟨rfl, xs, SqL.of hH⟩, he.l H0 B0 B H σ δ _ _ e h fun B1 H1 v d s r' w => ?_⟩
  obtain ⟨hl, w⟩ := w
  have e1 := e.mono s
  obtain ⟨_, hB1, hH0, xs1, hH1, r1⟩ := e1.look hx
  refine ⟨a, xs1, v, rfl, rfl, hH1, by rw [r1.len]; exact hl, ?_⟩
  refine q B1 _ σ _ s.b (e1.wr (s := .ow a (ds ++ [d])) hx rfl rfl fun v' _ hv' => ?_) w
  subst hv'
  exact ⟨rfl, hB1, hH0, _, upd_same, r1.snoc r'⟩
/-- xs[k] = e, xs one's own -/
theorem ds_sub {i : Nat} {x : Str} {px psub : Pos} {ix : Expr} {ti : TE} {Wi : WE} (he : DE X e te We) (hix : DE X ix ti Wi) (hi : X.N[i]? = some x := by rfl) (hv : Vis X.env.scope x := by first | exact Or.inl rfl | exact Or.inr (Or.inl rfl) | exact Or.inr (Or.inr rfl))
    (hd : (x == ("__debug__" : Str)) = false := by decide) (hcd : (x == ("__classdict__" : Str)) = false := by decide)
    (hg : ∀ (v : Value), assign (.Subscript (.Name x px) ix psub) X.env v = (do
      let ov ← holding [v] (eval (.Name x px) X.env)
      let iv ← holding [v, ov] (eval ix X.env)
      standAt psub
      holding [v, ov, iv] (setItem ov iv v)
      release [v, ov, iv] []) := by intro _; rfl)
    (hs : swapsWithSole [.Subscript (.Name x px) ix psub] e pos.line X.env = pure false := by rfl) (hw : swappedStores [.Subscript (.Name x px) ix psub] e X.env = pure none := by rfl)
    (ha : (assignEach [.Subscript (.Name x px) ix psub] X.env).map (fun x => x.2) = [assign (.Subscript (.Name x px) ix psub) X.env] := by rfl) :
    DS X (.Assign [.Subscript (.Name x px) ix psub] e pos) (tAsg te (gSub (tVar i) ti rSetL))
      (fun P δ => We δ fun d => ∃ a ds, δ[i]? = some (.ow a ds) ∧ Wi δ fun k => ∃ n j, k = .int n ∧ ixN ds.length n = some j ∧ P.nx (δ.set i (.ow a (ds.set j d)))) := by
  refine ⟨ps_asg he.p (pg_sub (pe_var hi hv hd hcd) hix.p set_list hg) hs hw ha, fun H0 B0 B H σ δ P E e h q _ _ _ => he.l H0 B0 B H σ δ _ _ e h fun B1 H1 v d s1 r1 h1 => ?_⟩
  obtain ⟨a, ds, hx, h1⟩ := h1
  have e1 := e.mono s1
  refine ⟨_, (e1.look hx).1, hix.l H0 B0 B1 H1 σ δ _ _ e1 h1 fun B2 H2 k dk s2 r2 h2 => ?_⟩
  obtain ⟨n, j, rfl, hj, w⟩ := h2
  cases r2
  have e2 := e1.mono s2
  obtain ⟨_, hB2, hH0, xs, hH2, r⟩ := e2.look hx
  refine ⟨a, xs, n, j, rfl, rfl, hH2, by rw [r.len]; exact hj, ?_⟩
  refine q B2 _ σ _ (s1.b.trans s2.b) (e2.wr (s := .ow a (ds.set j d)) hx rfl rfl fun v' _ hv' => ?_) w
  subst hv'
  exact ⟨rfl, hB2, hH0, _, upd_same, r.set (r1.mono s2.b) j⟩
end
end DL
end
section
set_option Elab.async false
set_option linter.all false
set_option maxRecDepth 100000
/-! DL4: what is walked, for, while, list comprehensions. -/
namespace DL
open PySem PySem.Spec PyProof.Rows L2

/-! ### what is walked -/
/-- from the heap Hs and the base B on, J walks the data ds -/
structure IterOk (K : PySem.W.Frag) (Hs B : Hp) (J : It) (ds : List D) : Prop where
  go : ∀ (i : Nat) (B' H' : Hp), Same B B' → Same B' H' → Same Hs H' → i < ds.length → J.go i H'
  yld : ∀ (i : Nat) (B' H' : Hp) (x : V) (H2 : Hp), Same B B' → Same B' H' → Same Hs H' → i < ds.length → J.yld i H' x H2 → ∃ B2 d, ds[i]? = some d ∧ Step B' H' B2 H2 ∧ Rep K B2 x d
  stop : ∀ (i : Nat) (B' H' : Hp), Same B B' → Same B' H' → Same Hs H' → ds.length ≤ i → J.stop i H'
theorem IterOk.mono {K : PySem.W.Frag} {Hs Hs' B B' : Hp} {J : It} {ds : List D} (x : IterOk K Hs B J ds) (s : Same Hs Hs') (b : Same B B') : IterOk K Hs' B' J ds :=
  ⟨fun i B2 H2 h1 h2 h3 => x.go i B2 H2 (b.trans h1) h2 (s.trans h3), fun i B2 H2 v H3 h1 h2 h3 => x.yld i B2 H2 v H3 (b.trans h1) h2 (s.trans h3), fun i B2 H2 h1 h2 h3 => x.stop i B2 H2 (b.trans h1) h2 (s.trans h3)⟩
/-- the walk stands through the whole def -/
def LIp (K : PySem.W.Frag) (wi : TI) (W : WA) : Prop := ∀ (H0 B0 B H : Hp) (σ : L2.St) (δ : St') (P : List D → Prop) (R : It → Hp → Prop), Env K H0 B0 B H σ δ → W δ P →
  (∀ B' H' J ds, Step B H B' H' → IterOk K H0 B' J ds → P ds → R J H') → wi σ H R
/-- the walk stands while the heap grows -/
def LIw (K : PySem.W.Frag) (wi : TI) (W : WA) : Prop := ∀ (H0 B0 B H : Hp) (σ : L2.St) (δ : St') (P : List D → Prop) (R : It → Hp → Prop), Env K H0 B0 B H σ δ → W δ P →
  (∀ B' H' J ds, Step B H B' H' → IterOk K H' B' J ds → P ds → R J H') → wi σ H R
structure DIp (X : Cx) (tg it : Expr) (wi : TI) (W : WA) : Prop where
  p : PI X tg it wi
  l : LIp X.K wi W
structure DIw (X : Cx) (tg it : Expr) (wi : TI) (W : WA) : Prop where
  p : PI X tg it wi
  l : LIw X.K wi W
theorem DIp.w {X : Cx} {tg it : Expr} {wi : TI} {W : WA} (h : DIp X tg it wi W) : DIw X tg it wi W :=
  ⟨h.p, fun H0 B0 B H σ δ P R e w q => h.l H0 B0 B H σ δ P R e w fun B' H' J ds s x p => q B' H' J ds s (x.mono (e.step.h.trans s.h) (Same.refl _)) p⟩
/-- a list that is read -/
theorem iter_list {K : PySem.W.Frag} {Hs B : Hp} {a : Addr} {xs : List V} {ds : List D} (h : SqL K Hs a xs) (r : Reps K B xs ds) : IterOk K Hs B (Itl K a) ds where
  go := fun i B' H' b u s hi => by
    obtain ⟨v, hv, _⟩ := r.get (List.getElem?_eq_getElem hi)
    exact ⟨xs, v, s.seq h, hv⟩
  yld := fun i B' H' x H2 b u s hi hy => by
    obtain ⟨rfl, hy⟩ := hy
    obtain ⟨d, hd, q⟩ := r.getV (hy xs (s.seq h))
    exact ⟨B', d, hd, Step.refl u, q.mono b⟩
  stop := fun i B' H' b u s hi => ⟨xs, s.seq h, by rw [r.len]; exact hi⟩
theorem iter_tup {K : PySem.W.Frag} {Hs B : Hp} {a : Addr} {xs : List V} {ds : List D} (h : B a = some (.tup xs)) (r : Reps K B xs ds) : IterOk K Hs B (Itt K a) ds where
  go := fun i B' H' b u s hi => by
    obtain ⟨v, hv, _⟩ := r.get (List.getElem?_eq_getElem hi)
    exact ⟨xs, v, SqT.of (u _ _ (b _ _ h)), hv⟩
  yld := fun i B' H' x H2 b u s hi hy => by
    obtain ⟨rfl, hy⟩ := hy
    obtain ⟨d, hd, q⟩ := r.getV (hy xs (SqT.of (u _ _ (b _ _ h))))
    exact ⟨B', d, hd, Step.refl u, q.mono b⟩
  stop := fun i B' H' b u s hi => ⟨xs, SqT.of (u _ _ (b _ _ h)), by rw [r.len]; exact hi⟩
def rngD (lo : Int) (n : Nat) : List D := (List.range n).map fun i => .int (lo + (i : Nat))
theorem rngD_len (lo : Int) (n : Nat) : (rngD lo n).length = n := by unfold rngD; rw [List.length_map, List.length_range]
theorem iter_rng {K : PySem.W.Frag} {Hs B : Hp} (lo : Int) (n : Nat) : IterOk K Hs B (Itr lo n) (rngD lo n) where
  go := fun i B' H' b u s hi => by rw [rngD_len] at hi; exact hi
  yld := fun i B' H' x H2 b u s hi hy => by
    obtain ⟨rfl, rfl⟩ := hy
    rw [rngD_len] at hi
    refine ⟨B', .int (lo + (i : Nat)), ?_, Step.refl u, .int _⟩
    unfold rngD
    rw [List.getElem?_map, List.getElem?_range hi]
    rfl
  stop := fun i B' H' b u s hi => by rw [rngD_len] at hi; exact hi
/-- a list or a tuple by the values: what is made of its iterator -/
def iSeq (K : PySem.W.Frag) (tl : TE) : TI := fun σ H R => tl σ H fun x H1 => ∃ a, x = .ref a ∧ (((∃ xs, SqL K H1 a xs) ∧ R (Itl K a) H1) ∨ ((∃ xs, SqT K H1 a xs) ∧ R (Itt K a) H1))
theorem pi_seq {X : Cx} {tg l : Expr} {tl : TE} (hl : PE X l tl) : PI X tg l (iSeq X.K tl) := by
  refine ⟨fun pins s σ H R I h => thn (hl.run pins s σ H _ I h) fun v s1 ⟨x, H1, I1, r1, a, ex, q1⟩ => ?_⟩
  subst ex
  cases r1
  have fp1 : ∀ b, b ∈ [s1.heap.objs.size] → FpOk X pins H1 b := fun b hb => by
    have e : b = s1.heap.objs.size := by simpa using hb
    subst e
    exact I1.fpOk (Nat.le_refl _) (I1.hok.fresh (Nat.le_refl _))
  rcases q1 with ⟨⟨xs, hq⟩, q⟩ | ⟨⟨xs, hq⟩, q⟩
  · obtain ⟨its, rv, p, hz⟩ := I1.list hq
    exact wpAny_pyIter_list p.isList ⟨_, _, _, _, H1, rfl, I1.kept (t' := s1.toks) fun b o e => Heap.get?_push_of_some _ e, turn_list a _, ⟨_, Heap.get?_push_size _ rfl, rfl, rfl⟩, fp1, q⟩
  · obtain ⟨its, rv, p, hz⟩ := I1.tuple hq
    exact wpAny_pyIter_tuple (show s1.heap.IsTuple a its.toArray from p) ⟨_, _, _, _, H1, rfl, I1.kept (t' := s1.toks) fun b o e => Heap.get?_push_of_some _ e, turn_tuple a _, ⟨_, Heap.get?_push_size _ rfl, rfl, rfl⟩, fp1, q⟩
def walkD : D → Option (List D)
  | .lst ds => some ds
  | .tup ds => some ds
  | _ => none
def wSeqI (W : WE) : WA := fun δ P => W δ fun d => ∃ ds, walkD d = some ds ∧ P ds
section
variable {X : Cx} {tg e : Expr} {te : TE} {We : WE}
theorem dip_seq (he : DE X e te We) : DIp X tg e (iSeq X.K te) (wSeqI We) := by
  refine ⟨pi_seq he.p, fun H0 B0 B H σ δ P R e h q => he.l H0 B0 B H σ δ _ _ e h fun B1 H1 x d s r ⟨ds, hd, p⟩ => ?_⟩
  cases r with
  | lst hb r => cases hd; exact ⟨_, rfl, .inl ⟨⟨_, SqL.of (s.u _ _ hb)⟩, q B1 H1 _ ds s ⟨fun i B' H' b u s' => (iter_list (Hs := H1) (SqL.of (s.u _ _ hb)) r).go i B' H' b u |> fun f hi => by
      obtain ⟨v, hv, _⟩ := r.get (List.getElem?_eq_getElem hi)
      exact ⟨_, v, SqL.of (u _ _ (b _ _ hb)), hv⟩, fun i B' H' x H2 b u s' hi hy => by
      obtain ⟨rfl, hy⟩ := hy
      obtain ⟨d, hd, q⟩ := r.getV (hy _ (SqL.of (u _ _ (b _ _ hb))))
      exact ⟨B', d, hd, Step.refl u, q.mono b⟩, fun i B' H' b u s' hi => ⟨_, SqL.of (u _ _ (b _ _ hb)), by rw [r.len]; exact hi⟩⟩ p⟩⟩
  | tup hb r => cases hd; exact ⟨_, rfl, .inr ⟨⟨_, SqT.of (s.u _ _ hb)⟩, q B1 H1 _ ds s (iter_tup hb r) p⟩⟩
  | _ => cases hd
theorem diw_seq (he : DW X e te We) : DIw X tg e (iSeq X.K te) (wSeqI We) := by
  refine ⟨pi_seq he.p, fun H0 B0 B H σ δ P R e h q => he.l H0 B0 B H σ δ _ _ e h fun B1 H1 x d s r ⟨ds, hd, p⟩ => ?_⟩
  cases r with
  | st r => cases r with
    | lst hb r => cases hd; exact ⟨_, rfl, .inl ⟨⟨_, SqL.of (s.u _ _ hb)⟩, q B1 H1 _ ds s (iter_list (SqL.of (s.u _ _ hb)) r) p⟩⟩
    | tup hb r => cases hd; exact ⟨_, rfl, .inr ⟨⟨_, SqT.of (s.u _ _ hb)⟩, q B1 H1 _ ds s (iter_tup hb r) p⟩⟩
    | _ => cases hd
  | ls hb r => cases hd; exact ⟨_, rfl, .inl ⟨⟨_, SqL.of hb⟩, q B1 H1 _ ds s (iter_list (SqL.of hb) r) p⟩⟩
  | _ => cases hd
/-- a name whose datum stays (kept, or read since the entry) -/
def stSl : Sl → Option D
  | .st d => some d
  | .wk d => some d
  | _ => none
def wPs (i : Nat) : WE := fun δ P => ∃ s d, δ[i]? = some s ∧ stSl s = some d ∧ P d
theorem dip_nm (i : Nat) {x : Str} {pos : Pos} (hN : X.N[i]? = some x := by rfl) (hv : Vis X.env.scope x := by first | exact Or.inl rfl | exact Or.inr (Or.inl rfl) | exact Or.inr (Or.inr rfl)) (hd : (x == ("__debug__" : Str)) = false := by decide)
    (hcd : (x == ("__classdict__" : Str)) = false := by decide) : DIp X tg (.Name x pos) (iSeq X.K (tVar i)) (wSeqI (wPs i)) := by
  refine ⟨pi_seq (pe_var hN hv hd hcd), fun H0 B0 B H σ δ P R e h q => ?_⟩
  obtain ⟨s, d, hs, hd, ds, hw, p⟩ := h
  obtain ⟨o, ho, x⟩ := e.sl i _ hs
  have strong : ∀ (v : V), Rep X.K B v d → ∃ a, v = .ref a ∧ (((∃ xs, SqL X.K H a xs) ∧ R (Itl X.K a) H) ∨ ((∃ xs, SqT X.K H a xs) ∧ R (Itt X.K a) H)) := fun v r => by
    cases r with
    | lst hb r => cases hw; exact ⟨_, rfl, .inl ⟨⟨_, SqL.of (e.u _ _ hb)⟩, q B H _ ds (Step.refl e.u) ⟨fun i B' H' b u s' hi => by
        obtain ⟨v, hv, _⟩ := r.get (List.getElem?_eq_getElem hi)
        exact ⟨_, v, SqL.of (u _ _ (b _ _ hb)), hv⟩, fun i B' H' x H2 b u s' hi hy => by
        obtain ⟨rfl, hy⟩ := hy
        obtain ⟨d, hd, q⟩ := r.getV (hy _ (SqL.of (u _ _ (b _ _ hb))))
        exact ⟨B', d, hd, Step.refl u, q.mono b⟩, fun i B' H' b u s' hi => ⟨_, SqL.of (u _ _ (b _ _ hb)), by rw [r.len]; exact hi⟩⟩ p⟩⟩
    | tup hb r => cases hw; exact ⟨_, rfl, .inr ⟨⟨_, SqT.of (e.u _ _ hb)⟩, q B H _ ds (Step.refl e.u) (iter_tup hb r) p⟩⟩
    | _ => cases hw
  cases s with
  | st d' => cases hd; obtain ⟨v, rfl, r⟩ := x; exact ⟨v, ho, strong v r⟩
  | wk d' =>
    cases hd
    obtain ⟨v, rfl, r⟩ := x
    refine ⟨v, ho, ?_⟩
    cases r with
    | st r => exact strong v r
    | ls hb r => cases hw; exact ⟨_, rfl, .inl ⟨⟨_, SqL.of (e.step.h _ _ hb)⟩, q B H _ ds (Step.refl e.u) (iter_list (SqL.of hb) r) p⟩⟩
    | _ => cases hw
  | _ => cases hd
def Rg (j : Int) : Prop := -(2 ^ 62) ≤ j ∧ j < 2 ^ 62
def wRng1 (Wr : WA) : WA := fun δ P => Wr δ fun ds => ∃ j, ds = [.int j] ∧ Rg j ∧ P (rngD 0 j.toNat)
def wRng2 (Wr : WA) : WA := fun δ P => Wr δ fun ds => ∃ i j, ds = [.int i, .int j] ∧ (Rg i ∧ Rg j) ∧ P (rngD i (j - i).toNat)
theorem di_rng1 {a : Expr} {ta : TA} {Wr : WA} {ms : List Bool} {p pos : Pos} (hg : Gl X "range") (hm : X.mg "range" = none) (ha : DA X ms [a] ta Wr) (hs : starEach [a] X.env = [(false, eval a X.env)] := by rfl) :
    DIp X tg (.Call (.Name "range" p) [a] [] pos) (iRng1 ta) (wRng1 Wr) := by
  refine ⟨pi_range1 hg hm ha.p hs, fun H0 B0 B H σ δ P R e h q => ha.l H0 B0 B H σ δ _ _ e h fun B1 H1 vs ds s r ⟨j, hd, hr, p⟩ => ?_⟩
  subst hd
  have ev : vs = [.int j] := by
    cases r with
    | st r1 r2 => cases r2; cases r1; rfl
    | wk r1 r2 => cases r2; rw [r1.int]
  exact ⟨j, ev, hr.1, hr.2, q B1 H1 _ _ s (iter_rng 0 j.toNat) p⟩
theorem di_rng2 {a b : Expr} {ta : TA} {Wr : WA} {ms : List Bool} {p pos : Pos} (hg : Gl X "range") (hm : X.mg "range" = none) (ha : DA X ms [a, b] ta Wr) (hs : starEach [a, b] X.env = [(false, eval a X.env), (false, eval b X.env)] := by rfl) (hs2 : starEach [b] X.env = [(false, eval b X.env)] := by rfl) :
    DIp X tg (.Call (.Name "range" p) [a, b] [] pos) (iRng2 ta) (wRng2 Wr) := by
  refine ⟨pi_range2 hg hm ha.p hs hs2, fun H0 B0 B H σ δ P R e h q => ha.l H0 B0 B H σ δ _ _ e h fun B1 H1 vs ds s r ⟨i, j, hd, ⟨hr, hr2⟩, p⟩ => ?_⟩
  subst hd
  have ev : vs = [.int i, .int j] := by
    have one : ∀ {ms vs' j}, ArgsOk X.K B1 H1 ms vs' [.int j] → vs' = [.int j] := fun r => by
      cases r with
      | st r1 r2 => cases r2; cases r1; rfl
      | wk r1 r2 => cases r2; rw [r1.int]
    cases r with
    | st r1 r2 => cases r1; rw [one r2]
    | wk r1 r2 => rw [r1.int, one r2]
  exact ⟨i, j, ev, ⟨hr.1, hr.2, hr2.1, hr2.2⟩, q B1 H1 _ _ s (iter_rng i (j - i).toNat) p⟩
end

/-! ### for, while -/
def forW (g : WG) (b : WS) : List D → De → St' → Prop
  | [], P, δ => P.nx δ
  | d :: ds, P, δ => g d δ fun δ1 => b { nx := forW g b ds P, rt := P.rt, ct := forW g b ds P, bk := P.nx } δ1
def wFor (Wi : WA) (g : WG) (b : WS) : WS := fun P δ => Wi δ fun ds => forW g b ds P δ
theorem drop_at {α : Type} {l : List α} {i : Nat} {x : α} (h : l[i]? = some x) : l.drop i = x :: l.drop (i + 1) := by
  obtain ⟨h1, h2⟩ := List.getElem?_eq_some_iff.mp h
  rw [List.drop_eq_getElem_cons h1, h2]
theorem ds_for {X : Cx} {tg it : Expr} {body : List Stmt} {wi : TI} {Wi : WA} {g : TG} {ts : List Nat} {Wg : WG} {tb : TS} {Wb : WS} {pos : Pos} (hp : PassesOwn (model X.prog X.w) X.A X.env X.xe) (hc : X.calm = true) (hi : DIp X tg it wi Wi) (hg : DG X tg g ts Wg) (hb : DSs X body tb Wb)
    (hs : ∀ x, foldedSetIterable it X.env x = pure x := by intro _; rfl) : DS X (.For tg it body [] pos) (tFor wi g tb) (wFor Wi Wg Wb) := by
  refine ⟨ps_for hp hc hi.p hg.p hb.p hs, fun H0 B0 B H σ δ P E e h q1 q2 q3 q4 => hi.l H0 B0 B H σ δ _ _ e h fun B1 H1 J ds s io w => ?_⟩
  refine ⟨fun i m σ' H' => m = ds.length - i ∧ i ≤ ds.length ∧ ∃ B' δ', Same B1 B' ∧ Env X.K H0 B0 B' H' σ' δ' ∧ forW Wg Wb (ds.drop i) P δ', ⟨ds.length, rfl, Nat.zero_le _, B1, δ, Same.refl _, e.mono s, w⟩, ?_⟩
  rintro i m σ' H' ⟨rfl, hil, B', δ', sb, e', w'⟩
  by_cases hlt : i < ds.length
  · refine .inr ⟨io.go i B' H' sb e'.u e'.step.h hlt, fun σ2 H2 => ∃ B2 δ2, Same B1 B2 ∧ Env X.K H0 B0 B2 H2 σ2 δ2 ∧ forW Wg Wb (ds.drop (i + 1)) P δ2, fun σ2 H2 ⟨B2, δ2, n⟩ => ⟨_, by omega, rfl, hlt, B2, δ2, n⟩, fun x H2 hy => ?_⟩
    obtain ⟨B2, d, hd, s2, r⟩ := io.yld i B' H' x H2 sb e'.u e'.step.h hlt hy
    rw [drop_at hd] at w'
    refine hg.l H0 B0 B2 H2 σ' δ' x d _ _ (e'.mono s2) r w' fun σ3 δ3 _ e3 w3 => ?_
    refine hb.l H0 B0 B2 H2 σ3 δ3 _ _ e3 w3 (fun B4 H4 σ4 δ4 sb4 e4 w4 => ⟨B4, δ4, (sb.trans s2.b).trans sb4, e4, w4⟩) q2 (fun B4 H4 σ4 δ4 sb4 e4 w4 => q1 B4 H4 σ4 δ4 (((s.b.trans sb).trans s2.b).trans sb4) e4 w4) (fun B4 H4 σ4 δ4 sb4 e4 w4 => ⟨B4, δ4, (sb.trans s2.b).trans sb4, e4, w4⟩)
  · have ei : i = ds.length := by omega
    subst ei
    rw [List.drop_length] at w'
    exact .inl ⟨io.stop _ B' H' sb e'.u e'.step.h (Nat.le_refl _), q1 B' H' σ' δ' (s.b.trans sb) e' w'⟩
def whW (c : WT) (b : WS) : Nat → De → St' → Prop
  | 0, _, _ => False
  | n + 1, P, δ => c δ fun k => if k = true then b { nx := whW c b n P, rt := P.rt, ct := whW c b n P, bk := P.nx } δ else P.nx δ
def wWhile (c : WT) (b : WS) : WS := fun P δ => ∃ n, whW c b n P δ
theorem ds_while {X : Cx} {c : Expr} {body : List Stmt} {tc : TT} {Wc : WT} {tb : TS} {Wb : WS} {pos : Pos} (hp : PassesOwn (model X.prog X.w) X.A X.env X.xe) (hc : DT X c tc Wc) (hb : DSs X body tb Wb) : DS X (.While c body [] pos) (tWhile tc tb) (wWhile Wc Wb) := by
  refine ⟨ps_while hp hc.p hb.p, fun H0 B0 B H σ δ P E e ⟨n, h⟩ q1 q2 q3 q4 => ?_⟩
  refine ⟨fun m σ' H' => ∃ B' δ', Same B B' ∧ Env X.K H0 B0 B' H' σ' δ' ∧ whW Wc Wb m P δ', ⟨n, B, δ, Same.refl _, e, h⟩, ?_⟩
  rintro m σ' H' ⟨B', δ', sb, e', w'⟩
  cases m with
  | zero => exact w'.elim
  | succ m =>
    refine hc.l H0 B0 B' H' σ' δ' _ _ e' w' fun B2 H2 k s w2 => ?_
    cases k with
    | false =>
      rw [if_neg Bool.false_ne_true] at w2 ⊢
      exact q1 B2 H2 σ' δ' (sb.trans s.b) (e'.mono s) w2
    | true =>
      rw [if_pos rfl] at w2 ⊢
      refine ⟨fun σ3 H3 => ∃ B3 δ3, Same B B3 ∧ Env X.K H0 B0 B3 H3 σ3 δ3 ∧ whW Wc Wb m P δ3, fun σ3 H3 n => ⟨m, Nat.lt_succ_self m, n⟩, ?_⟩
      exact hb.l H0 B0 B2 H2 σ' δ' _ _ (e'.mono s) w2 (fun B4 H4 σ4 δ4 sb4 e4 w4 => ⟨B4, δ4, (sb.trans s.b).trans sb4, e4, w4⟩) q2 (fun B4 H4 σ4 δ4 sb4 e4 w4 => q1 B4 H4 σ4 δ4 ((sb.trans s.b).trans sb4) e4 w4) (fun B4 H4 σ4 δ4 sb4 e4 w4 => ⟨B4, δ4, (sb.trans s.b).trans sb4, e4, w4⟩)

/-! ### list comprehensions -/
def wipeD (δ : St') : List Nat → St'
  | [] => δ
  | v :: vs => (wipeD δ vs).set v .no
theorem wipeD_len (δ : St') : ∀ vs : List Nat, (wipeD δ vs).length = δ.length
  | [] => rfl
  | v :: vs => by unfold wipeD; rw [List.length_set, wipeD_len δ vs]
theorem Env.wipe {K : PySem.W.Frag} {H0 B0 B H : Hp} {σ : L2.St} {δ : St'} (e : Env K H0 B0 B H σ δ) : ∀ vs : List Nat, Env K H0 B0 B H (wipe σ vs) (wipeD δ vs)
  | [] => e
  | v :: vs => by
    have e1 := Env.wipe e vs
    refine ⟨e1.step, by unfold L2.wipe wipeD; rw [List.length_set, List.length_set]; exact e1.len, fun i s hs => ?_, fun i j s t a hs ht os ot => ?_⟩
    · unfold wipeD at hs
      unfold L2.wipe
      by_cases hi : v = i
      · subst hi
        have hlt : v < (wipeD δ vs).length := by
          have := (List.getElem?_eq_some_iff.mp hs).1
          rwa [List.length_set] at this
        rw [List.getElem?_set_self hlt] at hs
        cases hs
        exact ⟨none, List.getElem?_set_self (by rw [e1.len]; exact hlt), trivial⟩
      · rw [List.getElem?_set_ne hi] at hs
        rw [List.getElem?_set_ne hi]
        exact e1.sl i s hs
    · unfold wipeD at hs ht
      have lift : ∀ (j : Nat) (u : Sl), ((wipeD δ vs).set v .no)[j]? = some u → u.own = some a → (wipeD δ vs)[j]? = some u := fun j u hu ou => by
        by_cases hj : v = j
        · subst hj
          have hlt : v < (wipeD δ vs).length := by
            have := (List.getElem?_eq_some_iff.mp hu).1
            rwa [List.length_set] at this
          rw [List.getElem?_set_self hlt] at hu
          cases hu
          cases ou
        · rw [List.getElem?_set_ne hj] at hu
          exact hu
      exact e1.nd i j s t a (lift i s hs os) (lift j t ht ot) os ot
theorem wipeD_own {a : Addr} {i : Nat} {s : Sl} : ∀ (vs : List Nat) (δ : St'), (wipeD δ vs)[i]? = some s → s.own = some a → δ[i]? = some s
  | [], _, h, _ => h
  | v :: vs, δ, h, o => by
    unfold wipeD at h
    by_cases hi : v = i
    · subst hi
      have hlt : v < (wipeD δ vs).length := by
        have := (List.getElem?_eq_some_iff.mp h).1
        rwa [List.length_set] at this
      rw [List.getElem?_set_self hlt] at h
      cases h
      cases o
    · rw [List.getElem?_set_ne hi] at h
      exact wipeD_own vs δ h o
theorem wipe_at (σ : L2.St) (j : Nat) : ∀ vs : List Nat, (wipe σ vs)[j]? = if j ∈ vs then (if j < σ.length then some none else none) else σ[j]?
  | [] => by simp [L2.wipe]
  | v :: vs => by
    unfold L2.wipe
    by_cases h : v = j
    · subst h
      rw [if_pos List.mem_cons_self]
      by_cases hl : v < σ.length
      · rw [if_pos hl, List.getElem?_set_self (by rw [wipe_length]; exact hl)]
      · rw [if_neg hl]
        exact List.getElem?_eq_none (by rw [List.length_set, wipe_length]; omega)
    · rw [List.getElem?_set_ne h, wipe_at σ j vs]
      by_cases hm : j ∈ vs
      · rw [if_pos hm, if_pos (List.mem_cons_of_mem _ hm)]
      · rw [if_neg hm, if_neg]
        intro z
        rcases List.mem_cons.mp z with z | z
        · exact h z.symm
        · exact hm z
theorem Agree.wipe {ts : List Nat} {σ σ' : L2.St} {δ δ' : St'} {vs : List Nat} (a : Agree ts (wipe σ vs) δ σ' δ') (h : ∀ i ∈ ts, i ∈ vs) : wipe σ' vs = wipe σ vs := by
  apply List.ext_getElem?
  intro j
  rw [wipe_at σ' j vs]
  have hl : σ'.length = σ.length := by rw [a.len, wipe_length]
  by_cases hm : j ∈ vs
  · rw [if_pos hm, wipe_at σ j vs, if_pos hm, hl]
  · rw [if_neg hm]
    exact a.at_ j fun z => hm (h j z)
/-- a clause: n items so far -/
def lcW (δ : St') (g : WG) (tt : WT) (te : WE) : Nat → List D → (List D → Prop) → Prop
  | _, [], P => P []
  | n, d :: ds, P => g d δ fun δ2 => tt δ2 fun b => if b = true then te δ2 fun y => n < sizeLine ∧ lcW δ g tt te (n + 1) ds fun ys => P (y :: ys) else lcW δ g tt te n ds P
def wLc (Wi : WA) (g : WG) (tt : WT) (te : WE) (vs : List Nat) : WA := fun δ P => Wi δ fun ds => lcW (wipeD δ vs) g tt te 0 ds P
structure DTs (X : Cx) (ifs : List Expr) (t : TT) (W : WT) : Prop where
  p : PTs X ifs t
  l : LT X.K t W
def wYes : WT := fun _ P => P true
theorem dts_nil {X : Cx} : DTs X [] tYes wYes := ⟨pts_nil, fun H0 B0 B H σ δ P Q e h q => q B H true (Step.refl e.u) h⟩
theorem dts_one {X : Cx} {c : Expr} {t : TT} {W : WT} (h : DT X c t W) : DTs X [c] t W := ⟨pts_one h.p, h.l⟩
/-- the slots beside a list D that grows -/
theorem Env.beside {K : PySem.W.Frag} {H0 B0 B H : Hp} {σ : L2.St} {δ : St'} {D0 : Addr} {o o' : HO} (e : Env K H0 B0 B H σ δ) (hD : H D0 = some o) (hB : B D0 = none) (hH0 : H0 D0 = none) (hn : ∀ (i : Nat) (s : Sl), δ[i]? = some s → s.own ≠ some D0) : Env K H0 B0 B (upd H D0 o') σ δ := by
  have k : ∀ b, b ≠ D0 → upd H D0 o' b = H b := fun b h => upd_ne h
  refine ⟨⟨fun b x z => ?_, e.step.b, fun b x z => ?_, e.step.n⟩, e.len, fun i s hs => ?_, e.nd⟩
  · rw [k b (ne_of_none z hH0)]; exact e.step.h _ _ z
  · rw [k b (ne_of_none z hB)]; exact e.step.u _ _ z
  · obtain ⟨v, hv, x⟩ := e.sl i s hs
    refine ⟨v, hv, ?_⟩
    have na : ∀ b, s.own = some b → b ≠ D0 := fun b z w => hn i s hs (by rw [z, w])
    cases s with
    | no => trivial
    | st d => exact x
    | wk d => exact x
    | ow b ds => obtain ⟨e1, e2, e3, xs, q, r⟩ := x; exact ⟨e1, e2, e3, xs, by rw [k b (na b rfl)]; exact q, r⟩
    | oT b ds => obtain ⟨e1, e2, e3, xs, q, r⟩ := x; exact ⟨e1, e2, e3, xs, by rw [k b (na b rfl)]; exact q, r⟩
    | oK b ds => obtain ⟨e1, e2, e3, xs, q, r⟩ := x; exact ⟨e1, e2, e3, xs, by rw [k b (na b rfl)]; exact q, r⟩
    | oI b C ds => obtain ⟨e1, e2, e3, dx, fs, q, r⟩ := x; exact ⟨e1, e2, e3, dx, fs, by rw [k b (na b rfl)]; exact q, r⟩
/-- between two turns: the new list at D0 bears ys -/
structure Turn (K : PySem.W.Frag) (H0 B0 B1 H1 B' H' : Hp) (σ : L2.St) (δ : St') (D0 : Addr) (ys : List D) : Prop where
  env : Env K H0 B0 B' H' σ δ
  sb : Same B1 B'
  sh : Same H1 H'
  n : ∀ a, H1 a ≠ none → B' a = B1 a
  bD : B' D0 = none
  l : ∃ acc, H' D0 = some (.lst acc) ∧ Reps K B' acc ys
theorem Turn.next {K : PySem.W.Frag} {H0 B0 B1 H1 B' H' B2 H2 : Hp} {σ : L2.St} {δ : St'} {D0 : Addr} {ys : List D} (t : Turn K H0 B0 B1 H1 B' H' σ δ D0 ys) (s : Step B' H' B2 H2) : Turn K H0 B0 B1 H1 B2 H2 σ δ D0 ys := by
  obtain ⟨acc, ha, r⟩ := t.l
  exact ⟨t.env.mono s, t.sb.trans s.b, t.sh.trans s.h, fun a h => (s.n a (Same.ne t.sh h)).trans (t.n a h), (s.n D0 (by rw [ha]; exact (fun z => nomatch z))).trans t.bD, acc, s.h _ _ ha, Reps.mono s.b r⟩
/-- one item more -/
theorem Turn.add {K : PySem.W.Frag} {H0 B0 B1 H1 B' H' : Hp} {σ : L2.St} {δ : St'} {D0 : Addr} {ys : List D} (t : Turn K H0 B0 B1 H1 B' H' σ δ D0 ys) (h0 : H1 D0 = none) (hH0 : H0 D0 = none) (hn : ∀ (i : Nat) (s : Sl), δ[i]? = some s → s.own ≠ some D0) {v : V} {y : D} (r : Rep K B' v y) :
    ∃ acc, H' D0 = some (.lst acc) ∧ acc.length = ys.length ∧ Turn K H0 B0 B1 H1 B' (upd H' D0 (.lst (acc ++ [v]))) σ δ D0 (ys ++ [y]) := by
  obtain ⟨acc, ha, rs⟩ := t.l
  refine ⟨acc, ha, rs.len, t.env.beside ha t.bD hH0 hn, t.sb, fun b x z => ?_, t.n, t.bD, _, upd_same, rs.snoc r⟩
  rw [upd_ne (ne_of_none z h0)]
  exact t.sh _ _ z
/-- what a weaker look at the slots keeps -/
theorem Turn.look {K : PySem.W.Frag} {H0 B0 B1 H1 B' H' : Hp} {σ σ' : L2.St} {δ δ' : St'} {D0 : Addr} {ys : List D} (t : Turn K H0 B0 B1 H1 B' H' σ δ D0 ys) (e : Env K H0 B0 B' H' σ' δ') : Turn K H0 B0 B1 H1 B' H' σ' δ' D0 ys :=
  ⟨e, t.sb, t.sh, t.n, t.bD, t.l⟩
section
variable {X : Cx} {elt tg iter : Expr} {ifs : List Expr} {scope : Scope} {own : List (Str × Nat)} {pos : Pos} {wi : TI} {Wi : WA} {g : TG} {ts : List Nat} {Wg : WG} {tt : TT} {Wt : WT} {te : TE} {We : WE}
theorem lf_lc {K : PySem.W.Frag} (vs : List Nat) (hi : LIw K wi Wi) (hg : LG K g ts Wg) (ht : LT K tt Wt) (he : LE K te We) (hsub : ∀ i ∈ ts, i ∈ vs) : LF K (tLc wi g tt te vs) (wLc Wi Wg Wt We vs) := by
  intro H0 B0 B H σ δ P Q e h q
  refine hi H0 B0 B H σ δ _ _ e h fun B1 H1 J ds s io w D0 nD => ?_
  have e1 := e.mono s
  have hH0 : H0 D0 = none := Same.none e1.step.h nD
  have hB1 : B1 D0 = none := Same.none s.u nD
  have nown : ∀ (i : Nat) (s : Sl), (wipeD δ vs)[i]? = some s → s.own ≠ some D0 := fun i s hs os => (e1.wipe vs).owned hs os |>.1 nD
  refine ⟨fun i m H' => m = ds.length - i ∧ i ≤ ds.length ∧ ∃ B' ys, Turn K H0 B0 B1 H1 B' H' (wipe σ vs) (wipeD δ vs) D0 ys ∧ lcW (wipeD δ vs) Wg Wt We ys.length (ds.drop i) (fun zs => P (ys ++ zs)), ⟨ds.length, rfl, Nat.zero_le _, B1, [], ?_, by simpa using w⟩, ?_⟩
  · exact ⟨(e1.mono (Step.raw (o := .lst []) e1.u nD)).wipe vs, Same.refl _, same_upd nD, fun _ _ => rfl, hB1, [], upd_same, .nil⟩
  · rintro i m H' ⟨rfl, hil, B', ys, t, w'⟩
    by_cases hlt : i < ds.length
    · refine .inr ⟨io.go i B' H' t.sb t.env.u t.sh hlt, fun H2 => ∃ B2 ys2, Turn K H0 B0 B1 H1 B2 H2 (wipe σ vs) (wipeD δ vs) D0 ys2 ∧ lcW (wipeD δ vs) Wg Wt We ys2.length (ds.drop (i + 1)) (fun zs => P (ys2 ++ zs)), fun H2 ⟨B2, ys2, n⟩ => ⟨_, by omega, rfl, hlt, B2, ys2, n⟩, fun x H2 hy => ?_⟩
      obtain ⟨B2, d, hd, s2, r⟩ := io.yld i B' H' x H2 t.sb t.env.u t.sh hlt hy
      have t2 := t.next s2
      rw [drop_at hd] at w'
      refine hg H0 B0 B2 H2 (wipe σ vs) (wipeD δ vs) x d _ _ t2.env r w' fun σ3 δ3 ag e3 w3 => ⟨ag.wipe hsub, ?_⟩
      refine ht H0 B0 B2 H2 σ3 δ3 _ _ e3 w3 fun B4 H4 b s4 w4 => ?_
      have t4 := t2.next s4
      cases b with
      | false =>
        rw [if_neg Bool.false_ne_true] at w4 ⊢
        exact ⟨B4, ys, t4, w4⟩
      | true =>
        rw [if_pos rfl] at w4 ⊢
        refine he H0 B0 B4 H4 σ3 δ3 _ _ (e3.mono s4) w4 fun B5 H5 v y s5 r5 w5 => ?_
        obtain ⟨hsz, w5⟩ := w5
        obtain ⟨acc, ha, hl, t6⟩ := (t4.next s5).add nD hH0 nown r5
        refine ⟨acc, ha, by rw [hl]; exact hsz, B5, _, t6, ?_⟩
        rw [List.length_append, List.length_singleton]
        have : (fun zs => P (ys ++ [y] ++ zs)) = fun zs => P (ys ++ y :: zs) := by funext zs; rw [List.append_assoc]; rfl
        rw [this]
        exact w5
    · have ei : i = ds.length := by omega
      subst ei
      rw [List.drop_length] at w'
      obtain ⟨acc, ha, r⟩ := t.l
      refine .inl ⟨io.stop _ B' H' t.sb t.env.u t.sh (Nat.le_refl _), ?_⟩
      refine q B' H' D0 acc ys (s.trans ⟨t.sh, t.sb, t.env.u, t.n⟩) (Same.none s.h nD) ha t.bD r ?_
      have w'' : P (ys ++ []) := w'
      rwa [List.append_nil] at w''
theorem df_lc (hc : X.calm = true) (hN : X.N.Nodup) (hi : DIw X tg iter wi Wi) (ok : blkC X.N X.env.scope scope own = true)
    (hg : ∀ (s : Shared) (H : Hp) (C : Addr) (cl : List (Str × Addr)) (fp : List Addr), DG (X.blk s H scope (compEnvC scope cl C X.env) fp) tg g ts Wg) (ht : ∀ (s : Shared) (H : Hp) (C : Addr) (cl : List (Str × Addr)) (fp : List Addr), DTs (X.blk s H scope (compEnvC scope cl C X.env) fp) ifs tt Wt)
    (he : ∀ (s : Shared) (H : Hp) (C : Addr) (cl : List (Str × Addr)) (fp : List Addr), DE (X.blk s H scope (compEnvC scope cl C X.env) fp) elt te We) (hsub : ∀ i ∈ ts, i ∈ own.map (·.2) := by decide) (hs : ∀ x, foldedSetIterable iter X.env x = pure x := by intro _; rfl) :
    DF X (.ListComp elt [⟨tg, iter, ifs, 0⟩] scope pos) (tLc wi g tt te (own.map (·.2))) (wLc Wi Wg Wt We (own.map (·.2))) :=
  ⟨pe_lc hc hN hi.p (blkOk_by ok) (fun s H C cl fp => (hg s H C cl fp).p) (fun s H C cl fp => (ht s H C cl fp).p) (fun s H C cl fp => (he s H C cl fp).p) hs,
    lf_lc _ hi.l (hg X.s_0 X.H_0 0 [] []).l (ht X.s_0 X.H_0 0 [] []).l (he X.s_0 X.H_0 0 [] []).l hsub⟩
/-- y = [..], a list of one's own -/
theorem ds_lcO {i : Nat} {y : Str} {py spos : Pos} (hc : X.calm = true) (hN : X.N.Nodup) (hi : DIw X tg iter wi Wi) (ok : blkC X.N X.env.scope scope own = true)
    (hg : ∀ (s : Shared) (H : Hp) (C : Addr) (cl : List (Str × Addr)) (fp : List Addr), DG (X.blk s H scope (compEnvC scope cl C X.env) fp) tg g ts Wg) (ht : ∀ (s : Shared) (H : Hp) (C : Addr) (cl : List (Str × Addr)) (fp : List Addr), DTs (X.blk s H scope (compEnvC scope cl C X.env) fp) ifs tt Wt)
    (he : ∀ (s : Shared) (H : Hp) (C : Addr) (cl : List (Str × Addr)) (fp : List Addr), DE (X.blk s H scope (compEnvC scope cl C X.env) fp) elt te We) (hy : X.N[i]? = some y := by rfl) (hyl : X.env.scope.names.lookup y = some .local := by rfl)
    (hsw : swapsWith (.ListComp elt [⟨tg, iter, ifs, 0⟩] scope pos) (some (.Name y py)) spos.line X.env = pure true := by exact sw_true rfl rfl rfl (by decide +kernel)) (hsub : ∀ i ∈ ts, i ∈ own.map (·.2) := by decide) (hs : ∀ x, foldedSetIterable iter X.env x = pure x := by intro _; rfl) :
    DS X (.Assign [.Name y py] (.ListComp elt [⟨tg, iter, ifs, 0⟩] scope pos) spos) (tAsg (tLc wi g tt te (own.map (·.2))) (gName i)) (fun P δ => wLc Wi Wg Wt We (own.map (·.2)) δ fun ds => ∀ a, P.nx (δ.set i (.ow a ds))) := by
  have l := lf_lc (own.map (·.2)) hi.l (hg X.s_0 X.H_0 0 [] []).l (ht X.s_0 X.H_0 0 [] []).l (he X.s_0 X.H_0 0 [] []).l hsub
  refine ⟨ps_setLc hc hN hy hyl hsw hi.p (blkOk_by ok) (fun s H C cl fp => (hg s H C cl fp).p) (fun s H C cl fp => (ht s H C cl fp).p) (fun s H C cl fp => (he s H C cl fp).p) hs,
    fun H0 B0 B H σ δ P E e h q _ _ _ => l H0 B0 B H σ δ _ _ e h fun B1 H1 a xs ds s h0 h1 h2 r w => q B1 H1 _ _ s.b (e.ownL s i h0 h1 h2 r) (w a)⟩
/-- y = [..], kept as it is -/
theorem ds_lcE {i : Nat} {y : Str} {py spos : Pos} (hc : X.calm = true) (hN : X.N.Nodup) (hi : DIw X tg iter wi Wi) (ok : blkC X.N X.env.scope scope own = true)
    (hg : ∀ (s : Shared) (H : Hp) (C : Addr) (cl : List (Str × Addr)) (fp : List Addr), DG (X.blk s H scope (compEnvC scope cl C X.env) fp) tg g ts Wg) (ht : ∀ (s : Shared) (H : Hp) (C : Addr) (cl : List (Str × Addr)) (fp : List Addr), DTs (X.blk s H scope (compEnvC scope cl C X.env) fp) ifs tt Wt)
    (he : ∀ (s : Shared) (H : Hp) (C : Addr) (cl : List (Str × Addr)) (fp : List Addr), DE (X.blk s H scope (compEnvC scope cl C X.env) fp) elt te We) (hy : X.N[i]? = some y := by rfl) (hyl : X.env.scope.names.lookup y = some .local := by rfl)
    (hsw : swapsWith (.ListComp elt [⟨tg, iter, ifs, 0⟩] scope pos) (some (.Name y py)) spos.line X.env = pure true := by exact sw_true rfl rfl rfl (by decide +kernel)) (hsub : ∀ i ∈ ts, i ∈ own.map (·.2) := by decide) (hs : ∀ x, foldedSetIterable iter X.env x = pure x := by intro _; rfl) :
    DS X (.Assign [.Name y py] (.ListComp elt [⟨tg, iter, ifs, 0⟩] scope pos) spos) (tAsg (tLc wi g tt te (own.map (·.2))) (gName i)) (fun P δ => wLc Wi Wg Wt We (own.map (·.2)) δ fun ds => P.nx (δ.set i (.st (.lst ds)))) := by
  have l := (lf_lc (own.map (·.2)) hi.l (hg X.s_0 X.H_0 0 [] []).l (ht X.s_0 X.H_0 0 [] []).l (he X.s_0 X.H_0 0 [] []).l hsub).e
  refine ⟨ps_setLc hc hN hy hyl hsw hi.p (blkOk_by ok) (fun s H C cl fp => (hg s H C cl fp).p) (fun s H C cl fp => (ht s H C cl fp).p) (fun s H C cl fp => (he s H C cl fp).p) hs,
    fun H0 B0 B H σ δ P E e h q _ _ _ => l H0 B0 B H σ δ _ _ e h fun B1 H1 v d s r w => q B1 H1 _ _ s.b ((e.mono s).st i r) w⟩
end

/-! ### two clauses -/
def lc2W (δ : St') (g : WG) (tt : WT) (wi1 : WA) (g1 : WG) (tt1 : WT) (te : WE) (vs1 : List Nat) : Nat → List D → (List D → Prop) → Prop
  | _, [], P => P []
  | n, d :: ds, P => g d δ fun δ2 => tt δ2 fun b => if b = true then wi1 δ2 fun es => lcW (wipeD δ2 vs1) g1 tt1 te n es fun ys => lc2W δ g tt wi1 g1 tt1 te vs1 (n + ys.length) ds fun zs => P (ys ++ zs) else lc2W δ g tt wi1 g1 tt1 te vs1 n ds P
def wLc2 (Wi : WA) (g : WG) (tt : WT) (wi1 : WA) (g1 : WG) (tt1 : WT) (te : WE) (vs vs1 : List Nat) : WA := fun δ P => Wi δ fun ds => lc2W (wipeD δ vs) g tt wi1 g1 tt1 te vs1 0 ds P
section
variable {X : Cx} {elt tg iter tg1 iter1 : Expr} {ifs ifs1 : List Expr} {scope : Scope} {own : List (Str × Nat)} {vs1 : List Nat} {pos : Pos} {wi wi1 : TI} {Wi Wi1 : WA} {g g1 : TG} {ts ts1 : List Nat} {Wg Wg1 : WG} {tt tt1 : TT} {Wt Wt1 : WT} {te : TE} {We : WE}
theorem lf_lc2 {K : PySem.W.Frag} (vs vs1 : List Nat) (hi : LIw K wi Wi) (hg : LG K g ts Wg) (ht : LT K tt Wt) (hi1 : LIp K wi1 Wi1) (hg1 : LG K g1 ts1 Wg1) (ht1 : LT K tt1 Wt1) (he : LE K te We) (hsub : ∀ i ∈ ts, i ∈ vs) (hsub1 : ∀ i ∈ ts1, i ∈ vs1) (hv : ∀ i ∈ vs1, i ∈ vs) :
    LF K (tLc2 wi g tt wi1 g1 tt1 te vs vs1) (wLc2 Wi Wg Wt Wi1 Wg1 Wt1 We vs vs1) := by
  intro H0 B0 B H σ δ P Q e h q
  refine hi H0 B0 B H σ δ _ _ e h fun B1 H1 J ds s io w D0 nD => ?_
  have e1 := e.mono s
  have hH0 : H0 D0 = none := Same.none e1.step.h nD
  have hB1 : B1 D0 = none := Same.none s.u nD
  have nown : ∀ (i : Nat) (s : Sl), (wipeD δ vs)[i]? = some s → s.own ≠ some D0 := fun i s hs os => (e1.wipe vs).owned hs os |>.1 nD
  refine ⟨fun i m H' => m = ds.length - i ∧ i ≤ ds.length ∧ ∃ B' ys, Turn K H0 B0 B1 H1 B' H' (wipe σ vs) (wipeD δ vs) D0 ys ∧ lc2W (wipeD δ vs) Wg Wt Wi1 Wg1 Wt1 We vs1 ys.length (ds.drop i) (fun zs => P (ys ++ zs)), ⟨ds.length, rfl, Nat.zero_le _, B1, [], ?_, by simpa using w⟩, ?_⟩
  · exact ⟨(e1.mono (Step.raw (o := .lst []) e1.u nD)).wipe vs, Same.refl _, same_upd nD, fun _ _ => rfl, hB1, [], upd_same, .nil⟩
  · rintro i m H' ⟨rfl, hil, B', ys, t, w'⟩
    by_cases hlt : i < ds.length
    · refine .inr ⟨io.go i B' H' t.sb t.env.u t.sh hlt, fun H2 => ∃ B2 ys2, Turn K H0 B0 B1 H1 B2 H2 (wipe σ vs) (wipeD δ vs) D0 ys2 ∧ lc2W (wipeD δ vs) Wg Wt Wi1 Wg1 Wt1 We vs1 ys2.length (ds.drop (i + 1)) (fun zs => P (ys2 ++ zs)), fun H2 ⟨B2, ys2, n⟩ => ⟨_, by omega, rfl, hlt, B2, ys2, n⟩, fun x H2 hy => ?_⟩
      obtain ⟨B2, d, hd, s2, r⟩ := io.yld i B' H' x H2 t.sb t.env.u t.sh hlt hy
      have t2 := t.next s2
      rw [drop_at hd] at w'
      refine hg H0 B0 B2 H2 (wipe σ vs) (wipeD δ vs) x d _ _ t2.env r w' fun σ3 δ3 ag e3 w3 => ⟨ag.wipe hsub, ?_⟩
      refine ht H0 B0 B2 H2 σ3 δ3 _ _ e3 w3 fun B4 H4 b s4 w4 => ?_
      have t4 := t2.next s4
      have e4 := e3.mono s4
      cases b with
      | false =>
        rw [if_neg Bool.false_ne_true] at w4 ⊢
        exact ⟨B4, ys, t4, w4⟩
      | true =>
        rw [if_pos rfl] at w4 ⊢
        refine hi1 H0 B0 B4 H4 σ3 δ3 _ _ e4 w4 fun B5 H5 J1 es s5 io1 w5 => ?_
        have t5 := (t4.next s5).look ((e4.mono s5).wipe vs1)
        have nown3 : ∀ (i : Nat) (s : Sl), (wipeD δ3 vs1)[i]? = some s → s.own ≠ some D0 := fun i s hs os => by
          have lift := wipeD_own vs1 δ3 hs os
          obtain ⟨k, t', hk, ok⟩ := ag.own i s D0 lift os
          exact nown k t' hk ok
        refine ⟨fun j k H' => k = es.length - j ∧ j ≤ es.length ∧ ∃ B' us, Turn K H0 B0 B1 H1 B' H' (wipe σ3 vs1) (wipeD δ3 vs1) D0 (ys ++ us) ∧ Same B5 B' ∧ Env K H0 B0 B' H' (wipe σ vs) (wipeD δ vs) ∧
          lcW (wipeD δ3 vs1) Wg1 Wt1 We (ys ++ us).length (es.drop j) (fun us2 => lc2W (wipeD δ vs) Wg Wt Wi1 Wg1 Wt1 We vs1 (ys.length + (us ++ us2).length) (ds.drop (i + 1)) (fun zs => P (ys ++ (us ++ us2 ++ zs)))), ⟨es.length, rfl, Nat.zero_le _, B5, [], by rw [List.append_nil]; exact t5, Same.refl _, (t4.next s5).env, by rw [List.append_nil]; exact w5⟩, ?_⟩
        rintro j k H6 ⟨rfl, hjl, B6, us, t6, sb6, e6, w6⟩
        by_cases hlt1 : j < es.length
        · refine .inr ⟨io1.go j B6 H6 sb6 t6.env.u t6.env.step.h hlt1, fun H7 => ∃ B7 us7, Turn K H0 B0 B1 H1 B7 H7 (wipe σ3 vs1) (wipeD δ3 vs1) D0 (ys ++ us7) ∧ Same B5 B7 ∧ Env K H0 B0 B7 H7 (wipe σ vs) (wipeD δ vs) ∧
            lcW (wipeD δ3 vs1) Wg1 Wt1 We (ys ++ us7).length (es.drop (j + 1)) (fun us2 => lc2W (wipeD δ vs) Wg Wt Wi1 Wg1 Wt1 We vs1 (ys.length + (us7 ++ us2).length) (ds.drop (i + 1)) (fun zs => P (ys ++ (us7 ++ us2 ++ zs)))), fun H7 ⟨B7, us7, n⟩ => ⟨_, by omega, rfl, hlt1, B7, us7, n⟩, fun x1 H7 hy1 => ?_⟩
          obtain ⟨B7, d1, hd1, s7, r7⟩ := io1.yld j B6 H6 x1 H7 sb6 t6.env.u t6.env.step.h hlt1 hy1
          have t7 := t6.next s7
          rw [drop_at hd1] at w6
          refine hg1 H0 B0 B7 H7 (wipe σ3 vs1) (wipeD δ3 vs1) x1 d1 _ _ t7.env r7 w6 fun σ8 δ8 ag8 e8 w8 => ⟨ag8.wipe hsub1, ?_⟩
          refine ht1 H0 B0 B7 H7 σ8 δ8 _ _ e8 w8 fun B9 H9 b1 s9 w9 => ?_
          have t9 := t7.next s9
          have e9 := (e6.mono s7).mono s9
          cases b1 with
          | false =>
            rw [if_neg Bool.false_ne_true] at w9 ⊢
            exact ⟨B9, us, t9, (sb6.trans s7.b).trans s9.b, e9, w9⟩
          | true =>
            rw [if_pos rfl] at w9 ⊢
            refine he H0 B0 B9 H9 σ8 δ8 _ _ (e8.mono s9) w9 fun B10 H10 v y s10 r10 w10 => ?_
            obtain ⟨hsz, w10⟩ := w10
            obtain ⟨acc, ha, hl, t11⟩ := (t9.next s10).add nD hH0 nown3 r10
            refine ⟨acc, ha, by rw [hl]; exact hsz, B10, us ++ [y], ?_, ((sb6.trans s7.b).trans s9.b).trans s10.b, ?_, ?_⟩
            · rw [← List.append_assoc]; exact t11
            · exact (e9.mono s10).beside ha (t9.next s10).bD hH0 nown
            · rw [← List.append_assoc, List.length_append, List.length_singleton]
              have ee : ∀ us2 : List D, us ++ [y] ++ us2 = us ++ y :: us2 := fun us2 => by rw [List.append_assoc]; rfl
              simp only [ee]
              exact w10
        · have ej : j = es.length := by omega
          subst ej
          rw [List.drop_length] at w6
          refine .inl ⟨io1.stop _ B6 H6 sb6 t6.env.u t6.env.step.h (Nat.le_refl _), B6, ys ++ us, t6.look e6, ?_⟩
          have w7 : lc2W (wipeD δ vs) Wg Wt Wi1 Wg1 Wt1 We vs1 (ys.length + (us ++ []).length) (ds.drop (i + 1)) (fun zs => P (ys ++ (us ++ [] ++ zs))) := w6
          rw [List.append_nil] at w7
          rw [List.length_append]
          simp only [List.append_assoc] at w7 ⊢
          exact w7
    · have ei : i = ds.length := by omega
      subst ei
      rw [List.drop_length] at w'
      obtain ⟨acc, ha, r⟩ := t.l
      refine .inl ⟨io.stop _ B' H' t.sb t.env.u t.sh (Nat.le_refl _), ?_⟩
      refine q B' H' D0 acc ys (s.trans ⟨t.sh, t.sb, t.env.u, t.n⟩) (Same.none s.h nD) ha t.bD r ?_
      have w'' : P (ys ++ []) := w'
      rwa [List.append_nil] at w''
end
end DL
end
section
set_option Elab.async false
set_option linter.all false
set_option maxRecDepth 100000
/-! DL5: calls of what is built in, operators on data, enumerate and zip, two-clause comprehensions. -/
namespace DL
open PySem PySem.Spec PyProof.Rows L2

/-! ### built-in calls -/
/-- a call's law on data, the answer kept -/
def LC (K : PySem.W.Frag) (r : List V → Hp → VK → Prop) (ms : List Bool) (w : List D → (D → Prop) → Prop) : Prop := ∀ (B H : Hp) (vs : List V) (ds : List D) (P : D → Prop) (Q : VK), Same B H → ArgsOk K B H ms vs ds → w ds P →
  (∀ B' H' v d, Step B H B' H' → Rep K B' v d → P d → Q v H') → r vs H Q
/-- .. the answer a new list -/
def LCF (K : PySem.W.Frag) (r : List V → Hp → VK → Prop) (ms : List Bool) (w : List D → (List D → Prop) → Prop) : Prop := ∀ (B H : Hp) (vs : List V) (ds : List D) (P : List D → Prop) (Q : VK), Same B H → ArgsOk K B H ms vs ds → w ds P →
  (∀ B' H' a xs zs, Step B H B' H' → H a = none → H' a = some (.lst xs) → B' a = none → Reps K B' xs zs → P zs → Q (.ref a) H') → r vs H Q
def wCB (w : List D → (D → Prop) → Prop) (Wr : WA) : WE := fun δ P => Wr δ fun ds => w ds P
def wCF (w : List D → (List D → Prop) → Prop) (Wr : WA) : WA := fun δ P => Wr δ fun ds => w ds P
theorem LC.le {K : PySem.W.Frag} {r : List V → Hp → VK → Prop} {ms : List Bool} {w : List D → (D → Prop) → Prop} {t : TA} {Wr : WA} (lc : LC K r ms w) (la : LA K ms t Wr) : LE K (tCB r t) (wCB w Wr) := fun H0 B0 B H σ δ P Q e h q =>
  la H0 B0 B H σ δ _ _ e h fun B1 H1 vs ds s r1 w1 => lc B1 H1 vs ds P Q s.u r1 w1 fun B2 H2 v d s2 r2 p => q B2 H2 v d (s.trans s2) r2 p
theorem LCF.lf {K : PySem.W.Frag} {r : List V → Hp → VK → Prop} {ms : List Bool} {w : List D → (List D → Prop) → Prop} {t : TA} {Wr : WA} (lc : LCF K r ms w) (la : LA K ms t Wr) : LF K (tCB r t) (wCF w Wr) := fun H0 B0 B H σ δ P Q e h q =>
  la H0 B0 B H σ δ _ _ e h fun B1 H1 vs ds s r1 w1 => lc B1 H1 vs ds P Q s.u r1 w1 fun B2 H2 a xs zs s2 h0 h1 h2 r2 p => q B2 H2 a xs zs (s.trans s2) (Same.none s.h h0) h1 h2 r2 p
section
variable {X : Cx} {x : Str} {p pos : Pos} {e : Expr} {es : List Expr} {t : TA} {id T : String} {r : List V → Hp → VK → Prop} {ms : List Bool} {Wr : WA} {w : List D → (D → Prop) → Prop} {wf : List D → (List D → Prop) → Prop}
theorem de_callB (hc : CallR X (.builtin id) r) (lc : LC X.K r ms w) (hg : Gl X x) (hm : X.mg x = none) (ha : DA X ms (e :: es) t Wr) (hv : bootBuiltins x = some (.builtin id) := by rfl) (hn : x ≠ "__name__" := by decide) (hdb : (x == ("__debug__" : Str)) = false := by decide)
    (he : starEach (e :: es) X.env = (false, eval e X.env) :: starEach es X.env := by rfl) (hpl : (backTo pos (starEach es X.env)).any (·.1) = false := by rfl) : DE X (.Call (.Name x p) (e :: es) [] pos) (tCB r t) (wCB w Wr) :=
  ⟨pe_callB hc hg hm hv ha.p hn hdb he hpl, lc.le ha.l⟩
theorem df_callB (hc : CallR X (.builtin id) r) (lc : LCF X.K r ms wf) (hg : Gl X x) (hm : X.mg x = none) (ha : DA X ms (e :: es) t Wr) (hv : bootBuiltins x = some (.builtin id) := by rfl) (hn : x ≠ "__name__" := by decide) (hdb : (x == ("__debug__" : Str)) = false := by decide)
    (he : starEach (e :: es) X.env = (false, eval e X.env) :: starEach es X.env := by rfl) (hpl : (backTo pos (starEach es X.env)).any (·.1) = false := by rfl) : DF X (.Call (.Name x p) (e :: es) [] pos) (tCB r t) (wCF wf Wr) :=
  ⟨pe_callB hc hg hm hv ha.p hn hdb he hpl, lc.lf ha.l⟩
theorem de_callT (hc : CallR X (.type T) r) (lc : LC X.K r ms w) (hg : Gl X x) (hm : X.mg x = none) (ha : DA X ms (e :: es) t Wr) (hv : bootBuiltins x = some (.type T) := by rfl) (hn : x ≠ "__name__" := by decide) (hdb : (x == ("__debug__" : Str)) = false := by decide)
    (he : starEach (e :: es) X.env = (false, eval e X.env) :: starEach es X.env := by rfl) (hpl : (backTo pos (starEach es X.env)).any (·.1) = false := by rfl) : DE X (.Call (.Name x p) (e :: es) [] pos) (tCB r t) (wCB w Wr) :=
  ⟨pe_callTy hc hg hm hv ha.p hn hdb he hpl, lc.le ha.l⟩
theorem df_callT (hc : CallR X (.type T) r) (lc : LCF X.K r ms wf) (hg : Gl X x) (hm : X.mg x = none) (ha : DA X ms (e :: es) t Wr) (hv : bootBuiltins x = some (.type T) := by rfl) (hn : x ≠ "__name__" := by decide) (hdb : (x == ("__debug__" : Str)) = false := by decide)
    (he : starEach (e :: es) X.env = (false, eval e X.env) :: starEach es X.env := by rfl) (hpl : (backTo pos (starEach es X.env)).any (·.1) = false := by rfl) : DF X (.Call (.Name x p) (e :: es) [] pos) (tCB r t) (wCF wf Wr) :=
  ⟨pe_callTy hc hg hm hv ha.p hn hdb he hpl, lc.lf ha.l⟩
end
theorem ArgsOk.one {K : PySem.W.Frag} {B H : Hp} {vs : List V} {ds : List D} (h : ArgsOk K B H [false] vs ds) : ∃ v d, vs = [v] ∧ ds = [d] ∧ RepW K B H v d := by
  cases h with
  | wk r t => cases t; exact ⟨_, _, rfl, rfl, r⟩
theorem ArgsOk.two {K : PySem.W.Frag} {B H : Hp} {vs : List V} {ds : List D} (h : ArgsOk K B H [false, false] vs ds) : ∃ v d v' d', vs = [v, v'] ∧ ds = [d, d'] ∧ RepW K B H v d ∧ RepW K B H v' d' := by
  cases h with
  | wk r t =>
    obtain ⟨v', d', e1, e2, r2⟩ := t.one
    subst e1 e2
    exact ⟨_, _, _, _, rfl, rfl, r, r2⟩
/-- what is read as a list or a tuple -/
theorem RepW.seq {K : PySem.W.Frag} {B H : Hp} {v : V} {d : D} {ds : List D} (u : Same B H) (r : RepW K B H v d) (h : walkD d = some ds) : ∃ a xs, v = .ref a ∧ (SqL K H a xs ∨ SqT K H a xs) ∧ Reps K B xs ds := by
  cases r with
  | st r => cases r with
    | lst hb r => cases h; exact ⟨_, _, rfl, .inl (SqL.of (u _ _ hb)), r⟩
    | tup hb r => cases h; exact ⟨_, _, rfl, .inr (SqT.of (u _ _ hb)), r⟩
    | _ => cases h
  | ls hb r => cases h; exact ⟨_, _, rfl, .inl (SqL.of hb), r⟩
  | _ => cases h
theorem RepW.lst {K : PySem.W.Frag} {B H : Hp} {v : V} {ds : List D} (u : Same B H) (r : RepW K B H v (.lst ds)) : ∃ a xs, v = .ref a ∧ H a = some (.lst xs) ∧ Reps K B xs ds := r.list u
def lenD : D → Option Nat
  | .lst ds => some ds.length
  | .tup ds => some ds.length
  | .scr ns => some ns.length
  | _ => none
def wLen : List D → (D → Prop) → Prop := fun ds P => ∃ d n, ds = [d] ∧ lenD d = some n ∧ P (.int (n : Nat))
theorem lc_len {K : PySem.W.Frag} : LC K (fun xs H Q => ∃ x n, xs = [x] ∧ LenV K x H n ∧ Q (.int n) H) [false] wLen := fun B H vs ds P Q u ar w q => by
  obtain ⟨v, d, rfl, rfl, r⟩ := ar.one
  obtain ⟨d', n, e, h, p⟩ := w
  cases e
  refine ⟨v, n, rfl, ?_, q B H _ _ (Step.refl u) (.int _) p⟩
  cases r with
  | st r => cases r with
    | lst hb r => cases h; exact .inl ⟨_, SqL.of (u _ _ hb), r.len.symm⟩
    | tup hb r => cases h; exact .inr ⟨_, SqT.of (u _ _ hb), r.len.symm⟩
    | scr hb => cases h; exact .inl ⟨_, u.seq hb, by rw [List.length_map]⟩
    | _ => cases h
  | ls hb r => cases h; exact .inl ⟨_, SqL.of hb, r.len.symm⟩
  | _ => cases h
def wIntOf : List D → (D → Prop) → Prop := fun ds P => (∃ i, ds = [.int i] ∧ P (.int i)) ∨ ∃ k, ds = [.bl k] ∧ P (.int (if k then 1 else 0))
theorem lc_int {K : PySem.W.Frag} : LC K (fun xs H Q => (∃ i, xs = [.int i] ∧ Q (.int i) H) ∨ ∃ k, xs = [.bl k] ∧ Q (.int (if k then 1 else 0)) H) [false] wIntOf := fun B H vs ds P Q u ar w q => by
  obtain ⟨v, d, rfl, rfl, r⟩ := ar.one
  rcases w with ⟨i, e, p⟩ | ⟨k, e, p⟩
  · cases e
    exact .inl ⟨i, by rw [r.int], q B H _ _ (Step.refl u) (.int _) p⟩
  · cases e
    exact .inr ⟨k, by rw [r.bl], q B H _ _ (Step.refl u) (.int _) p⟩
def wMM (f : Int → Int → Int) : List D → (D → Prop) → Prop := fun ds P => ∃ i j, ds = [.int i, .int j] ∧ P (.int (f i j))
theorem lc_mm {K : PySem.W.Frag} {f : Int → Int → Int} : LC K (fun xs H Q => ∃ i j, xs = [.int i, .int j] ∧ Q (.int (f i j)) H) [false, false] (wMM f) := fun B H vs ds P Q u ar w q => by
  obtain ⟨v, d, v', d', rfl, rfl, r, r'⟩ := ar.two
  obtain ⟨i, j, e, p⟩ := w
  cases e
  exact ⟨i, j, by rw [r.int, r'.int], q B H _ _ (Step.refl u) (.int _) p⟩
def wListOf : List D → (List D → Prop) → Prop := fun ds P => ∃ d es, ds = [d] ∧ walkD d = some es ∧ P es
theorem lc_list {K : PySem.W.Frag} : LCF K (fun xs H Q => ∃ p ys, xs = [.ref p] ∧ (SqL K H p ys ∨ SqT K H p ys) ∧ ∀ l, H l = none → Q (.ref l) (upd H l (.lst ys))) [false] wListOf := fun B H vs ds P Q u ar w q => by
  obtain ⟨v, d, rfl, rfl, r⟩ := ar.one
  obtain ⟨d', es, e, h, p⟩ := w
  cases e
  obtain ⟨a, xs, rfl, hs, r⟩ := r.seq u h
  exact ⟨a, xs, rfl, hs, fun l hl => q B _ l xs es (Step.raw u hl) hl upd_same (Same.none u hl) r p⟩
def wTupOf : List D → (D → Prop) → Prop := fun ds P => ∃ d es, ds = [d] ∧ walkD d = some es ∧ P (.tup es)
theorem lc_tuple {K : PySem.W.Frag} : LC K (fun xs H Q => ∃ p ys, xs = [.ref p] ∧ ((SqL K H p ys ∧ ∀ l, H l = none → Q (.ref l) (upd H l (.tup ys))) ∨ (SqT K H p ys ∧ Q (.ref p) H))) [false] wTupOf := fun B H vs ds P Q u ar w q => by
  obtain ⟨v, d, rfl, rfl, r⟩ := ar.one
  obtain ⟨d', es, e, h, p⟩ := w
  cases e
  have lay : ∀ (a : Addr) (xs : List V), SqL K H a xs → Reps K B xs es → ∃ p ys, [V.ref a] = [V.ref p] ∧ ((SqL K H p ys ∧ ∀ l, H l = none → Q (.ref l) (upd H l (.tup ys))) ∨ (SqT K H p ys ∧ Q (.ref p) H)) := fun a xs hs r =>
    ⟨a, xs, rfl, .inl ⟨hs, fun l hl => by
      have s := Step.new (o := .tup xs) u hl
      exact q _ _ _ _ s (.tup upd_same (Reps.mono s.b r)) p⟩⟩
  cases r with
  | st r => cases r with
    | lst hb r => cases h; exact lay _ _ (SqL.of (u _ _ hb)) r
    | tup hb r => cases h; exact ⟨_, _, rfl, .inr ⟨SqT.of (u _ _ hb), q B H _ _ (Step.refl u) (.tup hb r) p⟩⟩
    | _ => cases h
  | ls hb r => cases h; exact lay _ _ (SqL.of hb) r
  | _ => cases h
/-- ints -/
theorem Reps.ints {K : PySem.W.Frag} {B : Hp} : ∀ {xs : List V} {ns : List Int}, Reps K B xs (ns.map .int) → xs = ns.map V.int
  | [], [], _ => rfl
  | _ :: _, [], h => by cases h
  | [], _ :: _, h => by cases h
  | _ :: _, n :: ns, h => by
    cases h with
    | cons r t =>
      cases r
      rw [Reps.ints t]
      rfl
theorem reps_ints {K : PySem.W.Frag} {B : Hp} : ∀ ns : List Int, Reps K B (ns.map V.int) (ns.map .int)
  | [] => .nil
  | n :: ns => .cons (.int n) (reps_ints ns)
def wSum : List D → (D → Prop) → Prop := fun ds P => ∃ ns : List Int, ds = [.lst (ns.map .int)] ∧ P (.int ns.sum)
theorem RepW.intsL {K : PySem.W.Frag} {B H : Hp} {v : V} {ns : List Int} (u : Same B H) (r : RepW K B H v (.lst (ns.map .int))) : ∃ a, v = .ref a ∧ SqL K H a (ns.map V.int) := by
  obtain ⟨a, xs, rfl, hs, r⟩ := r.list u
  rw [r.ints] at hs
  exact ⟨a, rfl, SqL.of hs⟩
theorem lc_sum {K : PySem.W.Frag} : LC K (rSum K) [false] wSum := fun B H vs ds P Q u ar w q => by
  obtain ⟨v, d, rfl, rfl, r⟩ := ar.one
  obtain ⟨ns, e, p⟩ := w
  cases e
  obtain ⟨a, rfl, hs⟩ := r.intsL u
  exact ⟨a, ns, rfl, hs, q B H _ _ (Step.refl u) (.int _) p⟩
def wSorted : List D → (List D → Prop) → Prop := fun ds P => ∃ ns : List Int, ds = [.lst (ns.map .int)] ∧ ns.length < 64 ∧ ∀ ns' : List Int, ns'.Perm ns → ns'.Pairwise (· ≤ ·) → P (ns'.map .int)
theorem lc_sorted {K : PySem.W.Frag} : LCF K (rSorted K) [false] wSorted := fun B H vs ds P Q u ar w q => by
  obtain ⟨v, d, rfl, rfl, r⟩ := ar.one
  obtain ⟨ns, e, h64, p⟩ := w
  cases e
  obtain ⟨a, rfl, hs⟩ := r.intsL u
  exact ⟨a, ns, rfl, hs, h64, fun ns' l hp hw hl => q B _ l _ _ (Step.raw u hl) hl upd_same (Same.none u hl) (reps_ints ns') (p ns' hp hw)⟩

/-! ### isinstance -/
def tyD : D → Option String
  | .non => some "NoneType"
  | .bl _ => some "bool"
  | .int _ => some "int"
  | .str _ => some "str"
  | .lst _ => some "list"
  | .tup _ => some "tuple"
  | _ => none
theorem RepW.ty {K : PySem.W.Frag} {B H : Hp} {v : V} {d : D} {T : String} (u : Same B H) (r : RepW K B H v d) (h : tyD d = some T) : TyX K H v (.type T) := by
  cases r with
  | st r => cases r with
    | non => cases h; exact .base .non
    | bl b => cases h; exact .base (.bl b)
    | int i => cases h; exact .base (.int i)
    | str x => cases h; exact .base (.str x)
    | lst hb r => cases h; exact .base (.lst (u _ _ hb))
    | tup hb r => cases h; exact .base (.tup (u _ _ hb))
    | _ => cases h
  | ls hb r => cases h; exact .base (.lst hb)
  | _ => cases h
def wIsi (T : String) (Wa : WE) : WE := fun δ P => Wa δ fun d => ∃ S b, tyD d = some S ∧ kitB S T = some b ∧ P (.bl b)
section
variable {X : Cx} {a : Expr} {ta : TE} {Wa : WE} {p p2 pos : Pos} {T : String} {y : Str}
theorem de_isi (hg : Gl X "isinstance") (hm : X.mg "isinstance" = none) (hgT : Gl X y) (hmT : X.mg y = none) (ha : DW X a ta Wa) (hvT : bootBuiltins y = some (.type T) := by rfl) (hnT : y ≠ "__name__" := by decide) (hdbT : (y == ("__debug__" : Str)) = false := by decide)
    (hs : starEach [a, .Name y p2] X.env = (false, eval a X.env) :: starEach [.Name y p2] X.env := by rfl) (hs2 : starEach [.Name y p2] X.env = (false, eval (.Name y p2) X.env) :: starEach [] X.env := by rfl) (hpl : (backTo pos (starEach [.Name y p2] X.env)).any (·.1) = false := by rfl) :
    DE X (.Call (.Name "isinstance" p) [a, .Name y p2] [] pos) (tCB (rIsi X.K) (tCons ta (tCons (fun _ H Q => Q (.ty T) H) tNil))) (wIsi T Wa) := by
  refine ⟨pe_callB call_isi hg hm rfl (pa_cons ha.p (pa_cons ⟨fun pins s σ H Q I h => ?_⟩ pa_nil hs2) hs) (by decide) (by decide) hs hpl, fun H0 B0 B H σ δ P Q e h q => ha.l H0 B0 B H σ δ _ _ e h fun B1 H1 v d s r ⟨S, b, h1, h2, p⟩ => ?_⟩
  · exact ld_blt I hgT hmT hvT ⟨.ty T, H, I, rfl, h⟩ hnT hdbT
  · exact ⟨v, .ty T, _, _, b, rfl, .ty T, r.ty s.u h1, kit_ty h2, q B1 H1 _ _ s (.bl b) p⟩
end

/-! ### == != in, of data -/
mutual
def toPy : D → Option PyData
  | .non => some .none
  | .bl b => some (.bool b)
  | .int i => some (.int i)
  | .str x => some (.str x)
  | .lst ds => (toPys ds).map .list
  | .tup ds => (toPys ds).map .tuple
  | _ => none
def toPys : List D → Option (List PyData)
  | [] => some []
  | d :: ds => match toPy d, toPys ds with
    | some p, some ps => some (p :: ps)
    | _, _ => none
end
mutual
theorem Rep.dp {K : PySem.W.Frag} {B H : Hp} (u : Same B H) : ∀ {v : V} {d : D} {p : PyData}, Rep K B v d → toPy d = some p → Dp K H v p
  | _, _, _, .non, h => by rw [toPy] at h; cases h; exact .non
  | _, _, _, .bl b, h => by rw [toPy] at h; cases h; exact .bl b
  | _, _, _, .int i, h => by rw [toPy] at h; cases h; exact .int i
  | _, _, _, .str x, h => by rw [toPy] at h; cases h; exact .str x
  | _, _, _, .lst hb r, h => by
    rw [toPy] at h
    obtain ⟨ps, h1, rfl⟩ := Option.map_eq_some_iff.mp h
    exact .lst (SqL.of (u _ _ hb)) (Reps.dp u r h1)
  | _, _, _, .tup hb r, h => by
    rw [toPy] at h
    obtain ⟨ps, h1, rfl⟩ := Option.map_eq_some_iff.mp h
    exact .tup (SqT.of (u _ _ hb)) (Reps.dp u r h1)
  | _, _, _, .ins _ _, h => by rw [toPy] at h; all_goals first | cases h | (intros; contradiction)
  | _, _, _, .dT _ _, h => by rw [toPy] at h; all_goals first | cases h | (intros; contradiction)
  | _, _, _, .dK _ _, h => by rw [toPy] at h; all_goals first | cases h | (intros; contradiction)
  | _, _, _, .scr _, h => by rw [toPy] at h; all_goals first | cases h | (intros; contradiction)
theorem Reps.dp {K : PySem.W.Frag} {B H : Hp} (u : Same B H) : ∀ {vs : List V} {ds : List D} {ps : List PyData}, Reps K B vs ds → toPys ds = some ps → DpAll K H vs ps
  | _, _, _, .nil, h => by rw [toPys] at h; cases h; exact .nil
  | _, _, _, .cons (d := d) (ds := ds) r t, h => by
    rw [toPys] at h
    cases e1 : toPy d with
    | none => rw [e1] at h; cases h
    | some p =>
      cases e2 : toPys ds with
      | none => rw [e1, e2] at h; cases h
      | some ps =>
        rw [e1, e2] at h
        cases h
        exact .cons (Rep.dp u r e1) (Reps.dp u t e2)
end
theorem RepW.dp {K : PySem.W.Frag} {B H : Hp} (u : Same B H) {v : V} {d : D} {p : PyData} (r : RepW K B H v d) (h : toPy d = some p) : Dp K H v p := by
  cases r with
  | st r => exact r.dp u h
  | ls hb r =>
    rw [toPy] at h
    obtain ⟨ps, h1, rfl⟩ := Option.map_eq_some_iff.mp h
    exact .lst (SqL.of hb) (r.dp u h1)
  | dT e r => rw [toPy] at h; all_goals first | cases h | (intros; contradiction)
  | dK e r => rw [toPy] at h; all_goals first | cases h | (intros; contradiction)
def wPy (g : PyData → PyData → Bool) : D → D → (D → Prop) → Prop := fun a b P => ∃ p q, toPy a = some p ∧ toPy b = some q ∧ SeqAt.shaped p = true ∧ SeqAt.shaped q = true ∧ P (.bl (g p q))
theorem lo_eqD {K : PySem.W.Frag} : LO K (rEqD K) (wPy PyData.eqv) := fun B H x y a b P Q u r1 r2 h q => by
  obtain ⟨p, p', h1, h2, s1, s2, h⟩ := h
  exact ⟨p, p', r1.dp u h1, r2.dp u h2, s1, s2, q B H _ _ (Step.refl u) (.bl _) h⟩
theorem lo_neD {K : PySem.W.Frag} : LO K (rNeD K) (wPy fun a b => !PyData.eqv a b) := fun B H x y a b P Q u r1 r2 h q => by
  obtain ⟨p, p', h1, h2, s1, s2, h⟩ := h
  exact ⟨p, p', r1.dp u h1, r2.dp u h2, s1, s2, q B H _ _ (Step.refl u) (.bl _) h⟩
def wInPy (g : PyData → List PyData → Bool) : D → D → (D → Prop) → Prop := fun a b P => ∃ p ps, toPy a = some p ∧ toPy b = some (.list ps) ∧ SeqAt.shaped p = true ∧ SeqAt.shaped (.list ps) = true ∧ P (.bl (g p ps))
theorem lo_inD {K : PySem.W.Frag} : LO K (rInD K) (wInPy fun p ps => ps.any fun z => PyData.eqv z p) := fun B H x y a b P Q u r1 r2 h q => by
  obtain ⟨p, p', h1, h2, s1, s2, h⟩ := h
  exact ⟨p, p', r1.dp u h1, r2.dp u h2, s1, s2, q B H _ _ (Step.refl u) (.bl _) h⟩
theorem lo_notInD {K : PySem.W.Frag} : LO K (rNotInD K) (wInPy fun p ps => !ps.any fun z => PyData.eqv z p) := fun B H x y a b P Q u r1 r2 h q => by
  obtain ⟨p, p', h1, h2, s1, s2, h⟩ := h
  exact ⟨p, p', r1.dp u h1, r2.dp u h2, s1, s2, q B H _ _ (Step.refl u) (.bl _) h⟩
/-- ints -/
theorem lo_eqI {K : PySem.W.Frag} : LO K rEq (wI0 fun i j => .bl (decide (i = j))) := fun B H x y a b P Q u r1 r2 h q => by
  obtain ⟨i, j, rfl, rfl, p⟩ := h
  rw [r1.int, r2.int]
  refine ⟨rfl, ?_⟩
  have e : decide (V.int i = V.int j) = decide (i = j) := by rw [dec_int]; by_cases h : i = j <;> simp [h]
  rw [e]
  exact q B H _ _ (Step.refl u) (.bl _) p
theorem lo_neI {K : PySem.W.Frag} : LO K rNe (wI0 fun i j => .bl (!decide (i = j))) := fun B H x y a b P Q u r1 r2 h q => by
  obtain ⟨i, j, rfl, rfl, p⟩ := h
  rw [r1.int, r2.int]
  refine ⟨rfl, ?_⟩
  have e : decide (V.int i = V.int j) = decide (i = j) := by rw [dec_int]; by_cases h : i = j <;> simp [h]
  rw [e]
  exact q B H _ _ (Step.refl u) (.bl _) p
/-- < of tuples of ints -/
def wLtT : D → D → (D → Prop) → Prop := fun a b P => ∃ ns ms : List Int, a = .tup (ns.map .int) ∧ b = .tup (ms.map .int) ∧ P (.bl (HT.lexLt ns ms))
theorem RepW.intsT {K : PySem.W.Frag} {B H : Hp} {v : V} {ns : List Int} (u : Same B H) (r : RepW K B H v (.tup (ns.map .int))) : ∃ a, v = .ref a ∧ SqT K H a (ns.map V.int) := by
  obtain ⟨a, xs, rfl, hs, r⟩ := r.tuple
  rw [r.ints] at hs
  exact ⟨a, rfl, SqT.of (u _ _ hs)⟩
theorem lo_ltT {K : PySem.W.Frag} : LO K (rLtT K) wLtT := fun B H x y a b P Q u r1 r2 h q => by
  obtain ⟨ns, ms, rfl, rfl, p⟩ := h
  obtain ⟨t, rfl, h1⟩ := r1.intsT u
  obtain ⟨t', rfl, h2⟩ := r2.intsT u
  exact ⟨t, t', ns, ms, rfl, rfl, h1, h2, q B H _ _ (Step.refl u) (.bl _) p⟩
/-- tuple + tuple -/
def wCatT : D → D → (D → Prop) → Prop := fun a b P => ∃ ds es, a = .tup ds ∧ b = .tup es ∧ ds.length + es.length ≤ sizeLine ∧ P (.tup (ds ++ es))
theorem lo_catT {K : PySem.W.Frag} : LO K (rCatA K) wCatT := fun B H x y a b P Q u r1 r2 h q => by
  obtain ⟨ds, es, rfl, rfl, hl, p⟩ := h
  obtain ⟨t, xs, rfl, h1, r1⟩ := r1.tuple
  obtain ⟨t', ys, rfl, h2, r2⟩ := r2.tuple
  refine ⟨t, t', xs, ys, rfl, rfl, SqT.of (u _ _ h1), SqT.of (u _ _ h2), by rw [r1.len, r2.len]; exact hl, fun z => ?_, fun _ z => ?_, fun _ _ l hl => ?_⟩
  · subst z
    cases r1
    exact q B H _ _ (Step.refl u) (.tup h2 r2) p
  · subst z
    cases r2
    rw [List.append_nil] at p
    exact q B H _ _ (Step.refl u) (.tup h1 r1) p
  · have s := Step.new (o := .tup (xs ++ ys)) u hl
    exact q _ _ _ _ s (.tup upd_same (Reps.mono s.b (r1.app r2))) p
/-- operators that give a new list -/
def LOF (K : PySem.W.Frag) (r : R2) (w : D → D → (List D → Prop) → Prop) : Prop := ∀ (B H : Hp) (x y : V) (a b : D) (P : List D → Prop) (Q : VK), Same B H → RepW K B H x a → RepW K B H y b → w a b P →
  (∀ B' H' a xs zs, Step B H B' H' → H a = none → H' a = some (.lst xs) → B' a = none → Reps K B' xs zs → P zs → Q (.ref a) H') → r x y H Q
def wOpF (w : D → D → (List D → Prop) → Prop) (Wa Wb : WE) : WA := fun δ P => Wa δ fun a => Wb δ fun b => w a b P
section
variable {X : Cx} {a b : Expr} {ta tb : TE} {Wa Wb : WE} {pos : Pos} {w : D → D → (List D → Prop) → Prop} {r : R2}
theorem df_op {op : Operator} (ho : OpR X (binaryOp op) r) (lo : LOF X.K r w) (ha : DW X a ta Wa) (hb : DW X b tb Wb) : DF X (.BinOp a op b pos) (tOp r ta tb) (wOpF w Wa Wb) := by
  refine ⟨pe_op ho ha.p hb.p, fun H0 B0 B H σ δ P Q e h q => ha.l H0 B0 B H σ δ _ _ e h fun B1 H1 x d s1 r1 h1 => hb.l H0 B0 B1 H1 σ δ _ _ (e.mono s1) h1 fun B2 H2 y d' s2 r2 h2 => ?_⟩
  exact lo B2 H2 x y d d' P Q s2.u (r1.mono s2.b s2.h) r2 h2 fun B3 H3 l xs zs s3 z0 z1 z2 r3 p => q B3 H3 l xs zs ((s1.trans s2).trans s3) (Same.none s1.h (Same.none s2.h z0)) z1 z2 r3 p
end
def wCatL : D → D → (List D → Prop) → Prop := fun a b P => ∃ ds es, a = .lst ds ∧ b = .lst es ∧ ds.length + es.length ≤ sizeLine ∧ P (ds ++ es)
theorem lo_catL {K : PySem.W.Frag} : LOF K rCat wCatL := fun B H x y a b P Q u r1 r2 h q => by
  obtain ⟨ds, es, rfl, rfl, hl, p⟩ := h
  obtain ⟨t, xs, rfl, h1, r1⟩ := r1.list u
  obtain ⟨t', ys, rfl, h2, r2⟩ := r2.list u
  exact ⟨t, t', xs, ys, rfl, rfl, h1, h2, by rw [r1.len, r2.len]; exact hl, fun l hl => q B _ l _ _ (Step.raw u hl) hl upd_same (Same.none u hl) (r1.app r2) p⟩
def wRepL : D → D → (List D → Prop) → Prop := fun a b P => ∃ ds k, a = .lst ds ∧ b = .int k ∧ -(2 ^ 63) ≤ k ∧ k < 2 ^ 63 ∧ ds.length * k.toNat ≤ sizeLine ∧ P (List.replicate k.toNat ds).flatten
theorem reps_rep {K : PySem.W.Frag} {B : Hp} {xs : List V} {ds : List D} (r : Reps K B xs ds) : ∀ n : Nat, Reps K B (List.replicate n xs).flatten (List.replicate n ds).flatten
  | 0 => .nil
  | n + 1 => by
    rw [List.replicate_succ, List.replicate_succ, List.flatten_cons, List.flatten_cons]
    exact r.app (reps_rep r n)
theorem lo_repL {K : PySem.W.Frag} : LOF K rRep wRepL := fun B H x y a b P Q u r1 r2 h q => by
  obtain ⟨ds, k, rfl, rfl, h1, h2, h3, p⟩ := h
  obtain ⟨t, xs, rfl, hs, r1⟩ := r1.list u
  exact ⟨t, k, xs, rfl, r2.int, hs, h1, h2, by rw [r1.len]; exact h3, fun l hl => q B _ l _ _ (Step.raw u hl) hl upd_same (Same.none u hl) (reps_rep r1 k.toNat) p⟩

/-! ### two clauses -/
section
variable {X : Cx} {elt tg iter tg1 iter1 : Expr} {ifs ifs1 : List Expr} {scope : Scope} {own : List (Str × Nat)} {vs1 : List Nat} {pos : Pos} {wi wi1 : TI} {Wi Wi1 : WA} {g g1 : TG} {ts ts1 : List Nat} {Wg Wg1 : WG} {tt tt1 : TT} {Wt Wt1 : WT} {te : TE} {We : WE}
theorem df_lc2 (hc : X.calm = true) (hN : X.N.Nodup) (hi : DIw X tg iter wi Wi) (ok : blkC X.N X.env.scope scope own = true) (hv : ∀ i ∈ vs1, i ∈ own.map (·.2))
    (hg : ∀ (s : Shared) (H : Hp) (C : Addr) (cl : List (Str × Addr)) (fp : List Addr), DG (X.blk s H scope (compEnvC scope cl C X.env) fp) tg g ts Wg) (ht : ∀ (s : Shared) (H : Hp) (C : Addr) (cl : List (Str × Addr)) (fp : List Addr), DTs (X.blk s H scope (compEnvC scope cl C X.env) fp) ifs tt Wt)
    (hi1 : ∀ (s : Shared) (H : Hp) (C : Addr) (cl : List (Str × Addr)) (fp : List Addr), DIp (X.blk s H scope (compEnvC scope cl C X.env) fp) tg1 iter1 wi1 Wi1)
    (hg1 : ∀ (s : Shared) (H : Hp) (C : Addr) (cl : List (Str × Addr)) (fp : List Addr), DG (X.blk s H scope (compEnvC scope cl C X.env) fp) tg1 g1 ts1 Wg1) (ht1 : ∀ (s : Shared) (H : Hp) (C : Addr) (cl : List (Str × Addr)) (fp : List Addr), DTs (X.blk s H scope (compEnvC scope cl C X.env) fp) ifs1 tt1 Wt1)
    (he : ∀ (s : Shared) (H : Hp) (C : Addr) (cl : List (Str × Addr)) (fp : List Addr), DE (X.blk s H scope (compEnvC scope cl C X.env) fp) elt te We) (hsub : ∀ i ∈ ts, i ∈ own.map (·.2) := by decide) (hsub1 : ∀ i ∈ ts1, i ∈ vs1 := by decide)
    (hs : ∀ x, foldedSetIterable iter X.env x = pure x := by intro _; rfl) (hs1 : ∀ env x, foldedSetIterable iter1 env x = pure x := by intro _ _; rfl) :
    DF X (.ListComp elt [⟨tg, iter, ifs, 0⟩, ⟨tg1, iter1, ifs1, 0⟩] scope pos) (tLc2 wi g tt wi1 g1 tt1 te (own.map (·.2)) vs1) (wLc2 Wi Wg Wt Wi1 Wg1 Wt1 We (own.map (·.2)) vs1) :=
  ⟨pe_lc2 hc hN hi.p (blkOk_by ok) hv (fun s H C cl fp => (hg s H C cl fp).p) (fun s H C cl fp => (ht s H C cl fp).p) (fun s H C cl fp => (hi1 s H C cl fp).p) (fun s H C cl fp => (hg1 s H C cl fp).p) (fun s H C cl fp => (ht1 s H C cl fp).p) (fun s H C cl fp => (he s H C cl fp).p) hs hs1,
    lf_lc2 _ _ hi.l (hg X.s_0 X.H_0 0 [] []).l (ht X.s_0 X.H_0 0 [] []).l (hi1 X.s_0 X.H_0 0 [] []).l (hg1 X.s_0 X.H_0 0 [] []).l (ht1 X.s_0 X.H_0 0 [] []).l (he X.s_0 X.H_0 0 [] []).l hsub hsub1 hv⟩
/-- y = [.. for .. for ..], kept as it is -/
theorem ds_lc2E {i : Nat} {y : Str} {py spos : Pos} (hc : X.calm = true) (hN : X.N.Nodup) (hi : DIw X tg iter wi Wi) (ok : blkC X.N X.env.scope scope own = true) (hv : ∀ i ∈ vs1, i ∈ own.map (·.2))
    (hg : ∀ (s : Shared) (H : Hp) (C : Addr) (cl : List (Str × Addr)) (fp : List Addr), DG (X.blk s H scope (compEnvC scope cl C X.env) fp) tg g ts Wg) (ht : ∀ (s : Shared) (H : Hp) (C : Addr) (cl : List (Str × Addr)) (fp : List Addr), DTs (X.blk s H scope (compEnvC scope cl C X.env) fp) ifs tt Wt)
    (hi1 : ∀ (s : Shared) (H : Hp) (C : Addr) (cl : List (Str × Addr)) (fp : List Addr), DIp (X.blk s H scope (compEnvC scope cl C X.env) fp) tg1 iter1 wi1 Wi1)
    (hg1 : ∀ (s : Shared) (H : Hp) (C : Addr) (cl : List (Str × Addr)) (fp : List Addr), DG (X.blk s H scope (compEnvC scope cl C X.env) fp) tg1 g1 ts1 Wg1) (ht1 : ∀ (s : Shared) (H : Hp) (C : Addr) (cl : List (Str × Addr)) (fp : List Addr), DTs (X.blk s H scope (compEnvC scope cl C X.env) fp) ifs1 tt1 Wt1)
    (he : ∀ (s : Shared) (H : Hp) (C : Addr) (cl : List (Str × Addr)) (fp : List Addr), DE (X.blk s H scope (compEnvC scope cl C X.env) fp) elt te We) (hy : X.N[i]? = some y := by rfl) (hyl : X.env.scope.names.lookup y = some .local := by rfl)
    (hsw : swapsWith (.ListComp elt [⟨tg, iter, ifs, 0⟩, ⟨tg1, iter1, ifs1, 0⟩] scope pos) (some (.Name y py)) spos.line X.env = pure true := by exact sw_true rfl rfl rfl (by decide +kernel)) (hsub : ∀ i ∈ ts, i ∈ own.map (·.2) := by decide) (hsub1 : ∀ i ∈ ts1, i ∈ vs1 := by decide)
    (hs : ∀ x, foldedSetIterable iter X.env x = pure x := by intro _; rfl) (hs1 : ∀ env x, foldedSetIterable iter1 env x = pure x := by intro _ _; rfl) :
    DS X (.Assign [.Name y py] (.ListComp elt [⟨tg, iter, ifs, 0⟩, ⟨tg1, iter1, ifs1, 0⟩] scope pos) spos) (tAsg (tLc2 wi g tt wi1 g1 tt1 te (own.map (·.2)) vs1) (gName i)) (fun P δ => wLc2 Wi Wg Wt Wi1 Wg1 Wt1 We (own.map (·.2)) vs1 δ fun ds => P.nx (δ.set i (.st (.lst ds)))) := by
  have l := (lf_lc2 (own.map (·.2)) vs1 hi.l (hg X.s_0 X.H_0 0 [] []).l (ht X.s_0 X.H_0 0 [] []).l (hi1 X.s_0 X.H_0 0 [] []).l (hg1 X.s_0 X.H_0 0 [] []).l (ht1 X.s_0 X.H_0 0 [] []).l (he X.s_0 X.H_0 0 [] []).l hsub hsub1 hv).e
  refine ⟨ps_setLc2 hc hN hy hyl hsw hi.p (blkOk_by ok) hv (fun s H C cl fp => (hg s H C cl fp).p) (fun s H C cl fp => (ht s H C cl fp).p) (fun s H C cl fp => (hi1 s H C cl fp).p) (fun s H C cl fp => (hg1 s H C cl fp).p) (fun s H C cl fp => (ht1 s H C cl fp).p) (fun s H C cl fp => (he s H C cl fp).p) hs hs1,
    fun H0 B0 B H σ δ P E e h q _ _ _ => l H0 B0 B H σ δ _ _ e h fun B1 H1 v d s r w => q B1 H1 _ _ s.b ((e.mono s).st i r) w⟩
end

/-! ### enumerate, zip -/
def enD (i : Nat) : List D → List D
  | [] => []
  | d :: ds => .tup [.int (i : Nat), d] :: enD (i + 1) ds
theorem enD_len (i : Nat) (ds : List D) : (enD i ds).length = ds.length := by
  induction ds generalizing i with
  | nil => rfl
  | cons d ds ih => simp [enD, ih]
theorem enD_get (ds : List D) (k : Nat) : ∀ (i : Nat), (enD k ds)[i]? = (ds[i]?).map fun d => .tup [.int ((k + i : Nat) : Int), d] := by
  induction ds generalizing k with
  | nil => intro i; simp [enD]
  | cons d ds ih =>
    intro i
    cases i with
    | zero => simp [enD]
    | succ i =>
      simp only [enD, List.getElem?_cons_succ]
      rw [ih]
      congr 1
      funext d
      rw [show k + 1 + i = k + (i + 1) by omega]
theorem iter_en {K : PySem.W.Frag} {Hs B : Hp} {a : Addr} {xs : List V} {ds : List D} (h : SqL K Hs a xs) (r : Reps K B xs ds) : IterOk K Hs B (Ite K a) (enD 0 ds) where
  go := fun i B' H' b u s hi => by
    rw [enD_len] at hi
    obtain ⟨v, hv, _⟩ := r.get (List.getElem?_eq_getElem hi)
    exact ⟨xs, v, s.seq h, hv⟩
  yld := fun i B' H' x H2 b u s hi hy => by
    obtain ⟨T, v, rfl, hT, rfl, hy⟩ := hy
    obtain ⟨d, hd, q⟩ := r.getV (hy xs (s.seq h))
    have st := Step.new (o := .tup [.int (i : Nat), v]) u hT
    refine ⟨_, .tup [.int (i : Nat), d], by rw [enD_get, hd, Nat.zero_add]; rfl, st, .tup upd_same (.cons (.int _) (.cons ((q.mono b).mono st.b) .nil))⟩
  stop := fun i B' H' b u s hi => ⟨xs, s.seq h, by rw [r.len, ← enD_len 0]; exact hi⟩
def zpD : List D → List D → List D
  | d :: ds, e :: es => .tup [d, e] :: zpD ds es
  | _, _ => []
theorem zpD_get : ∀ (ds es : List D) (i : Nat), (zpD ds es)[i]? = match ds[i]?, es[i]? with | some d, some e => some (.tup [d, e]) | _, _ => none
  | [], es, i => by cases es <;> simp [zpD]
  | d :: ds, [], i => by cases h : (d :: ds)[i]? <;> simp [zpD, h]
  | d :: ds, e :: es, 0 => by simp [zpD]
  | d :: ds, e :: es, i + 1 => by
    simp only [zpD, List.getElem?_cons_succ]
    exact zpD_get ds es i
theorem iter_zp {K : PySem.W.Frag} {Hs B : Hp} {a b' : Addr} {xs ys : List V} {ds es : List D} (h : SqL K Hs a xs) (h' : SqL K Hs b' ys) (r : Reps K B xs ds) (r' : Reps K B ys es) : IterOk K Hs B (Itz K a b') (zpD ds es) where
  go := fun i B' H' b u s hi => by
    have e := List.getElem?_eq_getElem hi
    rw [zpD_get] at e
    cases e1 : ds[i]? with
    | none => rw [e1] at e; cases e
    | some d =>
      cases e2 : es[i]? with
      | none => rw [e1, e2] at e; cases e
      | some d' =>
        obtain ⟨v, hv, _⟩ := r.get e1
        obtain ⟨v', hv', _⟩ := r'.get e2
        exact ⟨xs, ys, v, v', s.seq h, s.seq h', hv, hv'⟩
  yld := fun i B' H' x H2 b u s hi hy => by
    obtain ⟨T, v, v', rfl, hT, rfl, hy, hy'⟩ := hy
    obtain ⟨d, hd, q⟩ := r.getV (hy xs (s.seq h))
    obtain ⟨d', hd', q'⟩ := r'.getV (hy' ys (s.seq h'))
    have st := Step.new (o := .tup [v, v']) u hT
    refine ⟨_, .tup [d, d'], by rw [zpD_get, hd, hd'], st, .tup upd_same (.cons ((q.mono b).mono st.b) (.cons ((q'.mono b).mono st.b) .nil))⟩
  stop := fun i B' H' b u s hi => by
    refine ⟨xs, ys, s.seq h, s.seq h', ?_⟩
    rw [r.len, r'.len]
    have e := List.getElem?_eq_none hi
    rw [zpD_get] at e
    cases e1 : ds[i]? with
    | none => exact .inl (List.getElem?_eq_none_iff.mp e1)
    | some d =>
      cases e2 : es[i]? with
      | none => exact .inr (List.getElem?_eq_none_iff.mp e2)
      | some d' => rw [e1, e2] at e; cases e
def wEn (Wr : WA) : WA := fun δ P => Wr δ fun ds => ∃ es, ds = [.lst es] ∧ P (enD 0 es)
def wZp (Wr : WA) : WA := fun δ P => Wr δ fun ds => ∃ es es', ds = [.lst es, .lst es'] ∧ P (zpD es es')
section
variable {X : Cx} {e e2 : Expr} {elts : List Expr} {kk : Nat} {p pos tpos : Pos}
theorem diw_en {ta : TA} {Wr : WA} (hg : Gl X "enumerate") (hm : X.mg "enumerate" = none) (ha : DA X [false] [e] ta Wr) (hs : starEach [e] X.env = [(false, eval e X.env)] := by rfl) :
    DIw X (.Tuple elts kk tpos) (.Call (.Name "enumerate" p) [e] [] pos) (iEnum X.K ta) (wEn Wr) := by
  refine ⟨pi_enum hg hm ha.p hs, fun H0 B0 B H σ δ P R e h q => ha.l H0 B0 B H σ δ _ _ e h fun B1 H1 vs ds s ar ⟨es, hd, p⟩ => ?_⟩
  obtain ⟨v, d, rfl, rfl, r⟩ := ar.one
  cases hd
  obtain ⟨a, xs, rfl, hs, r⟩ := r.list s.u
  exact ⟨a, xs, rfl, SqL.of hs, q B1 H1 _ _ s (iter_en (SqL.of hs) r) p⟩
theorem diw_zp {ta : TA} {Wr : WA} (hg : Gl X "zip") (hm : X.mg "zip" = none) (ha : DA X [false, false] [e, e2] ta Wr)
    (hs : starEach [e, e2] X.env = (false, eval e X.env) :: starEach [e2] X.env := by rfl) (hpl : (backTo pos (starEach [e2] X.env)).any (·.1) = false := by rfl) :
    DIw X (.Tuple elts kk tpos) (.Call (.Name "zip" p) [e, e2] [] pos) (iZip X.K ta) (wZp Wr) := by
  refine ⟨pi_zip hg hm ha.p hs hpl, fun H0 B0 B H σ δ P R e h q => ha.l H0 B0 B H σ δ _ _ e h fun B1 H1 vs ds s ar ⟨es, es', hd, p⟩ => ?_⟩
  obtain ⟨v, d, v', d', rfl, rfl, r, r'⟩ := ar.two
  cases hd
  obtain ⟨a, xs, rfl, hs, r⟩ := r.list s.u
  obtain ⟨a', xs', rfl, hs', r'⟩ := r'.list s.u
  exact ⟨a, a', xs, xs', rfl, SqL.of hs, SqL.of hs', q B1 H1 _ _ s (iter_zp (SqL.of hs) (SqL.of hs') r r') p⟩
end
/-- a walk that stands through the def: of a list that is kept -/
def wEnN (i : Nat) : WA := fun δ P => ∃ s es, δ[i]? = some s ∧ stSl s = some (.lst es) ∧ P (enD 0 es)
theorem dip_en (i : Nat) {X : Cx} {elts : List Expr} {kk : Nat} {p pos tpos : Pos} {x : Str} {pos' : Pos} (hg : Gl X "enumerate") (hm : X.mg "enumerate" = none) (hN : X.N[i]? = some x := by rfl) (hv : Vis X.env.scope x := by first | exact Or.inl rfl | exact Or.inr (Or.inl rfl) | exact Or.inr (Or.inr rfl)) (hd : (x == ("__debug__" : Str)) = false := by decide)
    (hcd : (x == ("__classdict__" : Str)) = false := by decide) (hs : starEach [.Name x pos'] X.env = [(false, eval (.Name x pos') X.env)] := by rfl) :
    DIp X (.Tuple elts kk tpos) (.Call (.Name "enumerate" p) [.Name x pos'] [] pos) (iEnum X.K (tCons (tVar i) tNil)) (wEnN i) := by
  refine ⟨pi_enum hg hm (pa_cons (pe_var hN hv hd hcd) pa_nil hs) hs, fun H0 B0 B H σ δ P R e h q => ?_⟩
  obtain ⟨s, es, hs, hd, p⟩ := h
  obtain ⟨o, ho, x⟩ := e.sl i _ hs
  have strong : ∀ (v : V), Rep X.K B v (.lst es) → ∃ a xs, [v] = [V.ref a] ∧ SqL X.K H a xs ∧ R (Ite X.K a) H := fun v r => by
    obtain ⟨a, xs, rfl, hb, r⟩ := r.list
    have base : IterOk X.K B B (Ite X.K a) (enD 0 es) := iter_en (SqL.of hb) r
    exact ⟨a, xs, rfl, SqL.of (e.u _ _ hb), q B H _ _ (Step.refl e.u) ⟨fun i B' H' b u s' => base.go i B' H' b u (b.trans u), fun i B' H' v H2 b u s' => base.yld i B' H' v H2 b u (b.trans u), fun i B' H' b u s' => base.stop i B' H' b u (b.trans u)⟩ p⟩
  cases s with
  | st d' => cases hd; obtain ⟨v, rfl, r⟩ := x; exact ⟨v, ho, strong v r⟩
  | wk d' =>
    cases hd
    obtain ⟨v, rfl, r⟩ := x
    refine ⟨v, ho, ?_⟩
    cases r with
    | st r => exact strong v r
    | ls hb r => exact ⟨_, _, rfl, SqL.of (e.step.h _ _ hb), q B H _ _ (Step.refl e.u) (iter_en (SqL.of hb) r) p⟩
  | _ => cases hd
end DL
end
section
set_option Elab.async false
set_option linter.all false
set_option maxRecDepth 100000
/-! DL6: attributes, dicts with tuple keys, insert, promises and calls. -/
namespace DL
open PySem PySem.Spec PyProof.Rows L2

/-! ### attributes -/
def wFld (f : Str) (Wa : WE) : WE := fun δ P => Wa δ fun d => ∃ C gs d', d = .ins C gs ∧ gs.lookup f = some d' ∧ P d'
section
variable {X : Cx} {e o value : Expr} {f : Str} {pos pos' : Pos} {ta tv : TE} {Wa Wv : WE} {C : Addr}
/-- e.f, a field of an instance of C -/
def wFldC (C : Addr) (f : Str) (Wa : WE) : WE := fun δ P => Wa δ fun d => ∃ gs d', d = .ins C gs ∧ gs.lookup f = some d' ∧ P d'
theorem de_fld (c : Cls X.K C) (n : NoAttr X.K C f) (ha : DE X e ta Wa) (hb : attributeBase e f X.env (eval e X.env) = eval e X.env := by rfl) : DE X (.Attribute e f pos) (tFld X.K ta f) (wFldC C f Wa) := by
  refine ⟨pe_fld ha.p hb, fun H0 B0 B H σ δ P Q e h q => ha.l H0 B0 B H σ δ _ _ e h fun B1 H1 v d s r ⟨gs, d', hd, hl, p⟩ => ?_⟩
  subst hd
  obtain ⟨a, dx, fs, rfl, hb, r⟩ := r.inst
  obtain ⟨v, hv, rv⟩ := r.look hl
  exact ⟨a, C, dx, fs, v, rfl, s.u _ _ hb, c, n, hv, q B1 H1 v d' s rv p⟩
/-- e.f, a constant of its class -/
def wCon (C : Addr) (f : Str) (d0 : D) (Wa : WE) : WE := fun δ P => Wa δ fun d => ∃ gs, d = .ins C gs ∧ gs.lookup f = none ∧ P d0
theorem de_con {v : V} {u : Value} {d0 : D} (c : Cls X.K C) (k : Con X.K C f v u) (hr : ∀ B, Rep X.K B v d0) (ha : DE X e ta Wa) (hb : attributeBase e f X.env (eval e X.env) = eval e X.env := by rfl) : DE X (.Attribute e f pos) (tCon X.K ta f) (wCon C f d0 Wa) := by
  refine ⟨pe_con ha.p hb, fun H0 B0 B H σ δ P Q e h q => ha.l H0 B0 B H σ δ _ _ e h fun B1 H1 v' d s r ⟨gs, hd, hl, p⟩ => ?_⟩
  subst hd
  obtain ⟨a, dx, fs, rfl, hb, r⟩ := r.inst
  exact ⟨a, C, dx, fs, v, u, rfl, s.u _ _ hb, c, k, r.none hl, q B1 H1 v d0 s (hr B1) p⟩
/-- C.f, a constant, C the class's name -/
theorem de_cval {x : Str} {p : Pos} {mc u : Value} {v : V} {d0 : D} (hg : Gl X x) (hm : X.mg x = some (.ref C)) (rd : ClX.CRead X.K C mc) (k : ClX.CVal X.K C mc f v u) (hr : ∀ B, Rep X.K B v d0) (hd : (x == ("__debug__" : Str)) = false := by decide)
    (hb : attributeBase (.Name x p) f X.env (eval (.Name x p) X.env) = eval (.Name x p) X.env := by rfl) : DE X (.Attribute (.Name x p) f pos) (ClX.tCVal X.K (tC (.ref C)) f) (wC d0) :=
  ⟨ClX.pe_cval (pe_glob (v := .ref C) hg hm rfl hd) hb, fun H0 B0 B H σ δ P Q e h q => ⟨C, mc, v, u, rfl, rd, k, q B H v d0 (Step.refl e.u) (hr B) h⟩⟩
/-- x.f = value, x one's own instance -/
theorem ds_fld {i : Nat} {x : Str} {px : Pos} (c : Cls X.K C) (n : NoAttr X.K C f) (hv : DE X value tv Wv) (hi : X.N[i]? = some x := by rfl) (hvs : Vis X.env.scope x := by first | exact Or.inl rfl | exact Or.inr (Or.inl rfl) | exact Or.inr (Or.inr rfl))
    (hd : (x == ("__debug__" : Str)) = false := by decide) (hcd : (x == ("__classdict__" : Str)) = false := by decide) (hs : swapsWith value (some (.Attribute (.Name x px) f pos')) pos.line X.env = pure false := by rfl) :
    DS X (.Assign [.Attribute (.Name x px) f pos'] value pos) (sFld X.K (tVar i) tv f) (fun P δ => Wv δ fun d => ∃ a gs, δ[i]? = some (.oI a C gs) ∧ gs.length < 1000 ∧ P.nx (δ.set i (.oI a C (putD f d gs)))) := by
  refine ⟨ps_fld (pe_var hi hvs hd hcd) hv.p hs, fun H0 B0 B H σ δ P E e h q _ _ _ => hv.l H0 B0 B H σ δ _ _ e h fun B1 H1 v d s r ⟨a, gs, hx, hl, w⟩ => ?_⟩
  have e1 := e.mono s
  obtain ⟨o, ho, rfl, hB, hH0, dx, fs, hH, rf⟩ := e1.sl i _ hx
  refine ⟨.ref a, ho, a, C, dx, fs, rfl, hH, c, n, by rw [rf.len]; exact hl, ?_⟩
  refine q B1 _ σ _ s.b (e1.wr (s := .oI a C (putD f d gs)) hx rfl rfl fun v' _ hv' => ?_) w
  subst hv'
  exact ⟨rfl, hB, hH0, dx, _, upd_same, rf.put r⟩
end

/-! ### xs.insert(i, e), xs one's own -/
section
variable {X : Cx} {e1 e2 : Expr} {t1 t2 : TE} {W1 W2 : WE} {pos : Pos}
theorem ds_ins {i : Nat} {x : Str} {px apos cpos : Pos} (h1 : DE X e1 t1 W1) (h2 : DE X e2 t2 W2) (hi : X.N[i]? = some x := by rfl) (hv : Vis X.env.scope x := by first | exact Or.inl rfl | exact Or.inr (Or.inl rfl) | exact Or.inr (Or.inr rfl))
    (hd : (x == ("__debug__" : Str)) = false := by decide) (hcd : (x == ("__classdict__" : Str)) = false := by decide) (hsa : starEach (e1 :: [e2]) X.env = (false, eval e1 X.env) :: starEach [e2] X.env := by rfl) (hsb : starEach (e2 :: []) X.env = (false, eval e2 X.env) :: starEach [] X.env := by rfl)
    (hbase : attributeBase (.Name x px) "insert" X.env (eval (.Name x px) X.env) = eval (.Name x px) X.env := by rfl)
    (hfew : ((backTo cpos (starEach (e1 :: [e2]) X.env)).all (fun x => !x.1) && (backToKw cpos (keywordEach [] X.env)).all (fun x => x.1.isSome)
      && decide ((e1 :: [e2]).length + ([] : List Keyword).length + (if ([] : List Keyword).isEmpty then 0 else 1) < 30)) = true := by rfl)
    (hline : (apos.endLine == cpos.line) = true := by rfl) (hplain : (backTo cpos (starEach [e2] X.env)).any (·.1) = false := by rfl)
    (hs : swapsWith (.Call (.Attribute (.Name x px) "insert" apos) [e1, e2] [] cpos) none pos.line X.env = pure false := by rfl) :
    DS X (.Expr (.Call (.Attribute (.Name x px) "insert" apos) [e1, e2] [] cpos) pos) (tDrop (tBM X.K "list" (fun x vs H Q => ∃ (l : Addr) (xs : List V) (i : Int) (y : V), x = .ref l ∧ vs = [.int i, y] ∧ H l = some (.lst xs) ∧ xs.length < sizeLine ∧ 0 ≤ i ∧ i < 2 ^ 63 ∧
    Q .non (upd H l (.lst (xs.take i.toNat ++ [y] ++ xs.drop i.toNat)))) (tVar i) (tCons t1 (tCons t2 tNil))))
      (fun P δ => ∃ a ds, δ[i]? = some (.ow a ds) ∧ W1 δ fun k => W2 δ fun d => ∃ n, k = .int n ∧ ds.length < sizeLine ∧ 0 ≤ n ∧ n < 2 ^ 63 ∧ P.nx (δ.set i (.ow a (ds.take n.toNat ++ [d] ++ ds.drop n.toNat)))) := by
  refine ⟨ps_expr (pe_bm PySem.F.plainAttrs_list PySem.F.slot_list_insert PySem.F.type_list_insert mt_insert (pe_var hi hv hd hcd) (pa_cons h1.p (pa_cons h2.p pa_nil hsb) hsa) hbase hfew hline hsa hplain) hs, fun H0 B0 B H σ δ P E e h q _ _ _ => ?_⟩
  obtain ⟨a, ds, hx, h⟩ := h
  obtain ⟨hσ, _, _, xs, hH, r⟩ := e.look hx
  refine ⟨_, hσ, .inl ⟨rfl, xs, SqL.of hH⟩, h1.l H0 B0 B H σ δ _ _ e h fun B1 H1 v1 d1 s1 r1 w => h2.l H0 B0 B1 H1 σ δ _ _ (e.mono s1) w fun B2 H2 v d s2 r' w => ?_⟩
  obtain ⟨n, rfl, hl, h0, h63, w⟩ := w
  cases r1
  have e1 := (e.mono s1).mono s2
  obtain ⟨_, hB1, hH0, xs1, hH1, r1⟩ := e1.look hx
  refine ⟨a, xs1, n, v, rfl, rfl, hH1, by rw [r1.len]; exact hl, h0, h63, ?_⟩
  refine q B2 _ σ _ (s1.b.trans s2.b) (e1.wr (s := .ow a (ds.take n.toNat ++ [d] ++ ds.drop n.toNat)) hx rfl rfl fun v' _ hv' => ?_) w
  subst hv'
  exact ⟨rfl, hB1, hH0, _, upd_same, ((r1.take _).app (.cons r' .nil)).app (r1.drop _)⟩
end

/-! ### dicts whose keys are tuples of ints -/
abbrev iK (ns : List Int) : List Key := ns.map Sum.inl
theorem iK_V (ns : List Int) : (iK ns).map kV = ns.map V.int := by
  rw [List.map_map]
  rfl
def lookT (gs : List (List Key × D)) (k : List Key) : Option D := (gs.find? fun p => decide (p.1 = k)).map (·.2)
theorem RepT.look {K : PySem.W.Frag} {B : Hp} {k : List Key} : ∀ {kvs : List (List Key × V)} {gs : List (List Key × D)} {d : D}, RepT K B kvs gs → lookT gs k = some d → ∃ v, valV kvs k = some v ∧ Rep K B v d
  | _, _, _, .nil, h => by simp [lookT] at h
  | _, _, d, .cons (f := g) (v := v) (d := d0) r t, h => by
    unfold lookT at h
    unfold valV
    rw [List.find?_cons] at h ⊢
    dsimp only at h ⊢
    by_cases e : g = k
    · rw [decide_eq_true e] at h ⊢
      cases h
      exact ⟨v, rfl, r⟩
    · rw [decide_eq_false e] at h ⊢
      exact RepT.look t h
theorem RepT.snoc {K : PySem.W.Frag} {B : Hp} {k : List Key} {v : V} {d : D} (r : Rep K B v d) : ∀ {kvs : List (List Key × V)} {gs : List (List Key × D)}, RepT K B kvs gs → RepT K B (kvs ++ [(k, v)]) (gs ++ [(k, d)])
  | _, _, .nil => .cons r .nil
  | _, _, .cons q t => .cons q (RepT.snoc r t)
theorem RepT.len {K : PySem.W.Frag} {B : Hp} : ∀ {kvs : List (List Key × V)} {gs : List (List Key × D)}, RepT K B kvs gs → kvs.length = gs.length
  | _, _, .nil => rfl
  | _, _, .cons _ t => congrArg (· + 1) (RepT.len t)
theorem RepT.keys {K : PySem.W.Frag} {B : Hp} : ∀ {kvs : List (List Key × V)} {gs : List (List Key × D)}, RepT K B kvs gs → kvs.map (·.1) = gs.map (·.1)
  | _, _, .nil => rfl
  | _, _, .cons _ t => by rw [List.map_cons, List.map_cons, RepT.keys t]
theorem putK_new {kvs : List (List Key × V)} {k : List Key} {v : V} (h : k ∉ kvs.map (·.1)) : putK kvs k v = kvs ++ [(k, v)] := by
  unfold putK
  rw [if_neg]
  intro z
  obtain ⟨p, hp, e⟩ := List.any_eq_true.mp z
  exact h (List.mem_map.mpr ⟨p, hp, of_decide_eq_true e⟩)
section
variable {X : Cx} {e ix : Expr} {te ti : TE} {We Wi : WE} {pos : Pos}
/-- x = {}, a dict of one's own -/
theorem ds_dnewT {i : Nat} {x : Str} {p' p2 : Pos} (hN : X.N.Nodup) (hi : X.N[i]? = some x := by rfl) (hx : Loc X.env.scope x := by first | exact Or.inl rfl | exact Or.inr rfl) (hs : swapsWith (.Dict [] [] p2) (some (.Name x p')) pos.line X.env = pure false := by rfl)
    (hf : X.fn x = true ∨ X.env.scope.names.lookup x = some .local := by first | exact .inl rfl | exact .inr rfl) : DS X (.Assign [.Name x p'] (.Dict [] [] p2) pos) (tAsg tDNewT (gName i)) (fun P δ => ∀ a, P.nx (δ.set i (.oT a []))) := by
  refine ⟨ps_set hN hi hx pe_dnewT hs hf, fun H0 B0 B H σ δ P E e h q _ _ _ => fun a ha => ?_⟩
  have s := Step.raw (o := .dT []) e.u ha
  refine q B _ _ _ (Same.refl B) ((e.mono s).put (s := .oT a []) ⟨rfl, Same.none e.u ha, Same.none e.step.h ha, [], upd_same, .nil⟩ fun b z j t ht _ ot => ?_) (h a)
  cases z
  exact (e.owned ht ot).1 ha
/-- x[k] = e, x one's own dict, the key not there yet -/
theorem ds_dput {i : Nat} {x : Str} {px psub : Pos} (hu : X.A.units + 1 < cLine) (he : DE X e te We) (hix : DE X ix ti Wi) (hi : X.N[i]? = some x := by rfl) (hv : Vis X.env.scope x := by first | exact Or.inl rfl | exact Or.inr (Or.inl rfl) | exact Or.inr (Or.inr rfl))
    (hd : (x == ("__debug__" : Str)) = false := by decide) (hcd : (x == ("__classdict__" : Str)) = false := by decide) (hs : swapsWith e (some (.Subscript (.Name x px) ix psub)) pos.line X.env = pure false := by rfl) :
    DS X (.Assign [.Subscript (.Name x px) ix psub] e pos) (sDPut (tVar i) ti te)
      (fun P δ => ∃ a gs, δ[i]? = some (.oT a gs) ∧ We δ fun d => Wi δ fun k => ∃ ns, k = .tup (ns.map .int) ∧ gs.length < sizeLine ∧ iK ns ∉ gs.map (·.1) ∧ P.nx (δ.set i (.oT a (gs ++ [(iK ns, d)])))) := by
  refine ⟨ps_dput hu (pe_var hi hv hd hcd) hix.p he.p hs, fun H0 B0 B H σ δ P E e h q _ _ _ => ?_⟩
  obtain ⟨a, gs, hx, h⟩ := h
  refine he.l H0 B0 B H σ δ _ _ e h fun B1 H1 v d s1 r1 h1 => ?_
  have e1 := e.mono s1
  obtain ⟨o, ho, rfl, _⟩ := e.sl i _ hx
  refine ⟨.ref a, ho, hix.l H0 B0 B1 H1 σ δ _ _ e1 h1 fun B2 H2 k dk s2 r2 ⟨ns, hk, hl, hn, w⟩ => ?_⟩
  have e2 := e1.mono s2
  subst hk
  obtain ⟨o, ho2, ho3, hB, hH0, kvs, hH, rt⟩ := e2.sl i _ hx
  obtain ⟨t, ys, rfl, hb', rr⟩ := r2.tuple
  have ht2 : H2 t = some (.tup ((iK ns).map kV)) := by
    rw [iK_V, ← rr.ints]
    exact s2.u _ _ hb'
  refine ⟨a, _, rfl, DPut.t hH ht2 (by rw [rt.len]; exact hl), ?_⟩
  rw [putK_new (by rw [rt.keys]; exact hn)]
  refine q B2 _ σ _ (s1.b.trans s2.b) (e2.wr (s := .oT a (gs ++ [(iK ns, d)])) hx rfl rfl fun v' _ hv' => ?_) w
  subst hv'
  exact ⟨rfl, hB, hH0, _, upd_same, rt.snoc (r1.mono s2.b)⟩
/-- d[k], d a dict, k a tuple of ints that is a key of it -/
def wDGet (Wa Wi : WE) : WE := fun δ P => Wa δ fun d => Wi δ fun k => ∃ gs ns d', d = .dT gs ∧ k = .tup (ns.map .int) ∧ lookT gs (iK ns) = some d' ∧ P d'
theorem de_dget (hu : X.A.units + 1 < cLine) (ha : DW X e te We) (hix : DE X ix ti Wi) (hs : NoSl ix := by intro _ _; rfl) : DE X (.Subscript e ix pos) (tDGet te ti) (wDGet We Wi) := by
  refine ⟨pe_dget hu ha.p hix.p hs, fun H0 B0 B H σ δ P Q e h q => ha.l H0 B0 B H σ δ _ _ e h fun B1 H1 v d s1 r1 h1 => hix.l H0 B0 B1 H1 σ δ _ _ (e.mono s1) h1 fun B2 H2 k dk s2 r2 ⟨gs, ns, d', hd, hk, hl, p⟩ => ?_⟩
  subst hd hk
  obtain ⟨t, ys, rfl, hb', rr⟩ := r2.tuple
  have ht2 : H2 t = some (.tup ((iK ns).map kV)) := by
    rw [iK_V, ← rr.ints]
    exact s2.u _ _ hb'
  cases r1 with
  | st r1 =>
    cases r1 with
    | dT hb r =>
      obtain ⟨v, hv, rv⟩ := r.look hl
      exact ⟨_, v, rfl, by rw [← hv]; exact DGet.t (s2.u _ _ (s2.b _ _ hb)) ht2, q B2 H2 v d' (s1.trans s2) (rv.mono s2.b) p⟩
  | dT hb r =>
    obtain ⟨v, hv, rv⟩ := r.look hl
    exact ⟨_, v, rfl, by rw [← hv]; exact DGet.t (s2.h _ _ hb) ht2, q B2 H2 v d' (s1.trans s2) (rv.mono s2.b) p⟩
end

/-! ### {(..): e} -/
section
variable {X : Cx} {k v : Expr} {tk tv : TE} {Wk Wv : WE} {pos : Pos}
def tDisp1 (tk tv : TE) : TE := fun σ H Q => ∀ p, H p = none → tk σ (upd H p (.dT [])) fun x H1 => tv σ H1 fun y H2 => ∃ b ks, x = .ref b ∧ H2 b = some (.tup (ks.map kV)) ∧ H2 p = some (.dT []) ∧ Q (.ref p) (upd H2 p (.dT [(ks, y)]))
theorem pe_disp1 (hu : X.A.units + 1 < cLine) (hk : PE X k tk) (hv : PE X v tv) : PE X (.Dict [some k] [v] pos) (tDisp1 tk tv) := by
  refine ⟨fun pins s σ H Q I q => ?_⟩
  have hn := I.hok.fresh (Nat.le_refl s.heap.objs.size)
  have I1 := I.laid (a := s.heap.objs.size) (o := .dT []) (h' := s.heap.push { cls := .type "dict", data := .dict #[] }) (t' := s.toks) (fun _ _ q => Heap.get?_push_of_some _ q) (Nat.le_refl _) (dt_empty s.heap I.big)
  refine wpAny_Dict_any rfl rfl (fun z => nomatch z) (by show 1 ≤ 15; decide) (thn ((pps_cons hk hv pps_nil).run pins _ σ _ (fun ps H2 => match ps with
    | [(x, y)] => ∃ b ks, x = .ref b ∧ H2 b = some (.tup (ks.map kV)) ∧ H2 s.heap.objs.size = some (.dT []) ∧ Q (.ref s.heap.objs.size) (upd H2 s.heap.objs.size (.dT [(ks, y)]))
    | _ => False) I1 (q _ hn)) fun ws s2 ⟨ps, H2, I2, rel, w⟩ => ?_)
  cases rel with
  | nil => exact w.elim
  | @cons p u ps us r t =>
    cases t with
    | cons _ _ => exact w.elim
    | nil =>
      obtain ⟨x, y⟩ := p
      obtain ⟨u, r'⟩ := u
      obtain ⟨b, ks, rfl, eb, e, q2⟩ := w
      obtain ⟨ru, rv⟩ := r
      cases (show u = Value.ref b from ru)
      unfold storeAll
      rw [List.forIn_cons]
      obtain ⟨z, hd, xs, rel, dd⟩ := dt_of I2.hok e
      have hz : xs.length ≤ sizeLine := by rw [← Paired.length rel]; exact z
      refine wpAny_bind (wpAny_bind (wpAny_dictSet_heap (hsz := hz) (show X.A.units < cLine by omega) (key_of I2.hok eb) dd fun h' dd' hs => wpAny_pure ?_))
      dsimp only
      rw [List.forIn_nil]
      refine wpAny_pure ?_
      obtain ⟨ob, es, ep, hq, h2, h3, h4, _, h5⟩ := dd'
      refine ⟨.ref s.heap.objs.size, _, ?_, rfl, q2⟩
      have hl : (putK ([] : List (List Key × V)) ks y).length ≤ sizeLine := by have := length_putK ([] : List (List Key × V)) ks y; rw [sizeLine_eq]; simp at this ⊢; omega
      refine d_write (ob := .dT (putK [] ks y)) I2 (by rw [e]; exact True.intro) hs ⟨ob, hq⟩ ⟨hl, hd, _, (rel.put ks eb rv).keeps fun c ys ec => ?_, ob, es, ep, hq, h2, h3, h4, h5⟩
      rw [upd_ne (ne_of ec e (fun z => nomatch z))]
      exact ec
/-- .. kept -/
theorem de_disp1 (hu : X.A.units + 1 < cLine) (hk : DE X k tk Wk) (hv : DE X v tv Wv) : DE X (.Dict [some k] [v] pos) (tDisp1 tk tv) (fun δ P => Wk δ fun d => Wv δ fun d' => ∃ ns, d = .tup (ns.map .int) ∧ P (.dT [(iK ns, d')])) := by
  refine ⟨pe_disp1 hu hk.p hv.p, fun H0 B0 B H σ δ P Q e h q => fun p hp => ?_⟩
  have s0 := Step.raw (o := .dT []) e.u hp
  refine hk.l H0 B0 B _ σ δ _ _ (e.mono s0) h fun B1 H1 x d s1 r1 h1 => hv.l H0 B0 B1 H1 σ δ _ _ ((e.mono s0).mono s1) h1 fun B2 H2 y d' s2 r2 ⟨ns, hd, w⟩ => ?_
  subst hd
  obtain ⟨t, ys, rfl, hb', rr⟩ := r1.tuple
  have ht2 : H2 t = some (.tup ((iK ns).map kV)) := by
    rw [iK_V, ← rr.ints]
    exact s2.h _ _ (s1.u _ _ hb')
  have hp2 : H2 p = some (.dT []) := s2.h _ _ (s1.h _ _ upd_same)
  have hB0 : B p = none := Same.none e.u hp
  have hB1 : B1 p = none := (s1.n p (by rw [upd_same]; exact fun z => nomatch z)).trans hB0
  have hB2 : B2 p = none := (s2.n p (by rw [s1.h _ _ upd_same]; exact fun z => nomatch z)).trans hB1
  refine ⟨t, iK ns, rfl, ht2, hp2, ?_⟩
  have st : Step B H B2 H2 := (s0.trans s1).trans s2
  have big : Step B H (upd B2 p (.dT [(iK ns, y)])) (upd H2 p (.dT [(iK ns, y)])) := by
    refine ⟨fun b o e => ?_, st.b.trans (same_upd hB2), fun b o e => ?_, fun a ha => ?_⟩
    · rw [upd_ne (ne_of_none e hp)]
      exact st.h _ _ e
    · by_cases hb : b = p
      · subst hb
        rw [upd_same] at e ⊢
        exact e
      · rw [upd_ne hb] at e ⊢
        exact st.u _ _ e
    · have : a ≠ p := fun z => by
        rw [z, hp] at ha
        exact ha rfl
      rw [upd_ne this]
      exact st.n a ha
  exact q _ _ _ _ big (.dT upd_same (.cons (r2.mono (same_upd hB2)) .nil)) w
end
end DL
end
section
set_option Elab.async false
set_option linter.all false
set_option maxRecDepth 100000
/-! DL7: promises and calls. -/
namespace DL
open PySem PySem.Spec PyProof.Rows L2

/-! ### promises -/
abbrev GD := List D → (D → Prop) → Prop
/-- what a def promises: of the data ds an answer as g says -/
def spD (K : PySem.W.Frag) (ms : List Bool) (g : GD) : Sp := fun vs H Q _ => ∃ B ds P, Same B H ∧ ArgsOk K B H ms vs ds ∧ g ds P ∧ ∀ B' H' v d, Step B H B' H' → Rep K B' v d → P d → Q v H'
/-- what an __init__ promises: the new instance's fields -/
abbrev GI := List D → (List (Str × D) → Prop) → Prop
def spI (K : PySem.W.Frag) (C : Addr) (ms : List Bool) (g : GI) : Sp := fun vs H Q _ => ∃ B H0 x dx ws ds P, vs = .ref x :: ws ∧ H0 x = none ∧ H = upd H0 x (.ins C dx []) ∧ Same B H0 ∧ ArgsOk K B H0 ms ws ds ∧ g ds P ∧
  ∀ B' H' dx' fs gs, Step B H0 B' H' → H' x = some (.ins C dx' fs) → B' x = none → RepF K B' fs gs → P gs → Q .non H'
theorem spD.len {K : PySem.W.Frag} {ms : List Bool} {g : GD} {vs : List V} {H : Hp} {Q : VK} {E : XK} (h : spD K ms g vs H Q E) : vs.length = ms.length := by
  obtain ⟨B, ds, P, _, a, _⟩ := h
  exact a.len
theorem spI.len {K : PySem.W.Frag} {C : Addr} {ms : List Bool} {g : GI} {vs : List V} {H : Hp} {Q : VK} {E : XK} (h : spI K C ms g vs H Q E) : vs.length = ms.length + 1 := by
  obtain ⟨B, H0, x, dx, ws, ds, P, rfl, _, _, _, a, _⟩ := h
  rw [List.length_cons, a.len]
/-- a weaker promise -/
theorem spD.imp {K : PySem.W.Frag} {ms : List Bool} {g g' : GD} (h : ∀ ds P, g' ds P → g ds P) {vs : List V} {H : Hp} {Q : VK} {E : XK} (x : spD K ms g' vs H Q E) : spD K ms g vs H Q E := by
  obtain ⟨B, ds, P, a, b, c, d⟩ := x
  exact ⟨B, ds, P, a, b, h _ _ c, d⟩

/-! ### calls -/
section
variable {X : Cx} {CX : CXT} {k : Nat} {f C : Addr} {fd : FuncData} {ps : List Str} {ms : List Bool} {m0 : Bool} {g : GD} {gi : GI} {E : XK} {x m : Str} {p pos apos : Pos} {e o : Expr} {es : List Expr} {ta : TE} {t : TA} {Wa : WE} {Wr : WA}
theorem le_call (la : LA X.K ms t Wr) : LE X.K (tCall (spD X.K ms g) [] E t) (wCB g Wr) := fun H0 B0 B H σ δ P Q e h q => by
  refine la H0 B0 B H σ δ _ _ e h fun B1 H1 vs ds s r w => ?_
  rw [List.append_nil]
  exact ⟨B1, ds, P, s.u, r, w, fun B2 H2 v d s2 r2 p => q B2 H2 v d (s.trans s2) r2 p⟩
/-- f(e, ..) -/
theorem de_call (F : FnOk X.prog X.w X.K X.mg X.base CX k f fd ps (spD X.K ms g)) (hr : Room k X.A) (hg : Gl X x) (hm : X.mg x = some (.ref f)) (hk : PySem.W.keepIn X.K (.ref f) = true) (hb : Binds X.K fd ps []) (hx : Passes CX X E)
    (ha : DA X ms (e :: es) t Wr) (hdb : (x == ("__debug__" : Str)) = false := by decide) (he : starEach (e :: es) X.env = (false, eval e X.env) :: starEach es X.env := by rfl) (hpl : (backTo pos (starEach es X.env)).any (·.1) = false := by rfl) :
    DE X (.Call (.Name x p) (e :: es) [] pos) (tCall (spD X.K ms g) [] E t) (wCB g Wr) :=
  ⟨pe_call F hr hg hm hk hb .nil hx ha.p hdb he hpl, le_call ha.l⟩
/-- o.m(e, ..), o kept -/
def wMeth (C : Addr) (m : Str) (g : GD) (Wa : WE) (Wr : WA) : WE := fun δ P => Wa δ fun d => ∃ gs, d = .ins C gs ∧ gs.lookup m = none ∧ Wr δ fun ds => g (d :: ds) P
theorem de_meth {pl : Sem Bool} (ho : DE X o ta Wa) (c : Cls X.K C) (hm : Meth X.K C m f) (F : FnOk X.prog X.w X.K X.mg X.base CX k f fd ps (spD X.K (true :: ms) g)) (hr : Room k X.A) (hb : Binds X.K fd ps []) (hx : Passes CX X E) (ha : DA X ms (e :: es) t Wr)
    (hst : starEach (e :: es) X.env = (false, eval e X.env) :: starEach es X.env := by rfl) (hpl : (backTo pos (starEach es X.env)).any (·.1) = false := by rfl)
    (ht : eval (.Call (.Attribute o m apos) (e :: es) [] pos) X.env = (do
      let ov ← eval o X.env
      standAt apos.atName
      let (f, first) ← holding [ov] (getMethod ov m pl)
      callWith pos f first (backTo pos (starEach (e :: es) X.env)) (backToKw pos (keywordEach [] X.env))) := by rfl) :
    DE X (.Call (.Attribute o m apos) (e :: es) [] pos) (tMeth C m (spD X.K (true :: ms) g) [] E ta t) (wMeth C m g Wa Wr) := by
  refine ⟨pe_meth ho.p c hm F hr hb .nil hx ha.p hst hpl ht, fun H0 B0 B H σ δ P Q e h q => ho.l H0 B0 B H σ δ _ _ e h fun B1 H1 v d s r ⟨gs, hd, hl, w⟩ => ?_⟩
  have r0 := r
  subst hd
  obtain ⟨a, dx, fs, rfl, hb1, rf⟩ := r.inst
  refine ⟨a, dx, fs, rfl, s.u _ _ hb1, rf.none hl, ha.l H0 B0 B1 H1 σ δ _ _ (e.mono s) w fun B2 H2 vs ds s2 r2 w2 => ?_⟩
  rw [List.append_nil]
  exact ⟨B2, _, P, s2.u, .st (r0.mono s2.b) r2, w2, fun B3 H3 v d s3 r3 p => q B3 H3 v d ((s.trans s2).trans s3) r3 p⟩
/-- C(e, ..) -/
def wMake (C : Addr) (g : GI) (Wr : WA) : WE := fun δ P => Wr δ fun ds => g ds fun gs => P (.ins C gs)
theorem de_make (M : Mk X.K C f) (F : FnOk X.prog X.w X.K X.mg X.base CX k f fd ps (spI X.K C ms gi)) (hr : Room (k + 1) X.A) (hg : Gl X x) (hm : X.mg x = some (.ref C)) (hb : Binds X.K fd ps []) (hx : Passes CX X E)
    (ha : DA X ms (e :: es) t Wr) (hdb : (x == ("__debug__" : Str)) = false := by decide) (he : starEach (e :: es) X.env = (false, eval e X.env) :: starEach es X.env := by rfl) (hpl : (backTo pos (starEach es X.env)).any (·.1) = false := by rfl) :
    DE X (.Call (.Name x p) (e :: es) [] pos) (tMake C (spI X.K C ms gi) [] E t) (wMake C gi Wr) := by
  refine ⟨pe_make M F hr hg hm hb .nil hx ha.p hdb he hpl, fun H0 B0 B H σ δ P Q e h q => ha.l H0 B0 B H σ δ _ _ e h fun B1 H1 vs ds s r w => fun x dx hx0 hdx hne => ?_⟩
  have s1 := Step.raw (o := .own x) s.u hdx
  have hx1 : upd H1 dx (.own x) x = none := by rw [upd_ne (Ne.symm hne)]; exact hx0
  rw [List.append_nil]
  refine ⟨B1, upd H1 dx (.own x), x, dx, vs, ds, _, rfl, hx1, rfl, s1.u, r.mono s1.b s1.h, w, fun B2 H2 dx' fs gs s2 hH hB rf p => ⟨rfl, ?_⟩⟩
  have s3 := s2.freeze hx1 hH hB
  exact q _ H2 _ _ ((s.trans s1).trans s3) (.ins upd_same (rf.mono (same_upd hB))) p
end

/-! ### defs -/
def startS : List Bool → List D → St'
  | true :: ms, d :: ds => .st d :: startS ms ds
  | false :: ms, d :: ds => .wk d :: startS ms ds
  | _, _ => []
def startD (n : Nat) (ms : List Bool) (ds : List D) : St' := startS ms ds ++ List.replicate (n - ms.length) .no
theorem startS_len : ∀ (ms : List Bool) (ds : List D), ms.length = ds.length → (startS ms ds).length = ms.length
  | [], [], _ => rfl
  | true :: ms, d :: ds, h => congrArg (· + 1) (startS_len ms ds (Nat.succ.inj h))
  | false :: ms, d :: ds, h => congrArg (· + 1) (startS_len ms ds (Nat.succ.inj h))
  | [], _ :: _, h => nomatch h
  | _ :: _, [], h => nomatch h
theorem ArgsOk.len2 {K : PySem.W.Frag} {B H : Hp} : ∀ {ms : List Bool} {vs : List V} {ds : List D}, ArgsOk K B H ms vs ds → ms.length = ds.length
  | _, _, _, .nil => rfl
  | _, _, _, .st _ t => congrArg (· + 1) t.len2
  | _, _, _, .wk _ t => congrArg (· + 1) t.len2
theorem startS_own : ∀ (ms : List Bool) (ds : List D) (i : Nat) (s : Sl), (startS ms ds)[i]? = some s → s.own = none
  | [], ds, i, s, h => by simp [startS] at h
  | _ :: _, [], i, s, h => by simp [startS] at h
  | true :: ms, d :: ds, 0, s, h => by simp [startS] at h; subst h; rfl
  | false :: ms, d :: ds, 0, s, h => by simp [startS] at h; subst h; rfl
  | true :: ms, d :: ds, i + 1, s, h => startS_own ms ds i s (by simpa [startS] using h)
  | false :: ms, d :: ds, i + 1, s, h => startS_own ms ds i s (by simpa [startS] using h)
theorem startD_own (n : Nat) (ms : List Bool) (ds : List D) (i : Nat) (s : Sl) (h : (startD n ms ds)[i]? = some s) : s.own = none := by
  unfold startD at h
  by_cases hi : i < (startS ms ds).length
  · rw [List.getElem?_append_left hi] at h
    exact startS_own ms ds i s h
  · rw [List.getElem?_append_right (by omega), List.getElem?_replicate] at h
    split at h
    · cases h; rfl
    · cases h
theorem startS_ok {K : PySem.W.Frag} {B H : Hp} : ∀ {ms : List Bool} {vs : List V} {ds : List D}, ArgsOk K B H ms vs ds → ∀ (i : Nat) (s : Sl), (startS ms ds)[i]? = some s → ∃ v, vs[i]? = some v ∧ SlOk K H B H (some v) s
  | _, _, _, .nil, i, s, h => by simp [startS] at h
  | _, _, _, .st r t, 0, s, h => by simp [startS] at h; subst h; exact ⟨_, rfl, _, rfl, r⟩
  | _, _, _, .wk r t, 0, s, h => by simp [startS] at h; subst h; exact ⟨_, rfl, _, rfl, r⟩
  | _, _, _, .st r t, i + 1, s, h => startS_ok t i s (by simpa [startS] using h)
  | _, _, _, .wk r t, i + 1, s, h => startS_ok t i s (by simpa [startS] using h)
theorem start_env {K : PySem.W.Frag} {B H : Hp} {N : List Str} {ms : List Bool} {vs : List V} {ds : List D} (u : Same B H) (a : ArgsOk K B H ms vs ds) : Env K H B B H (start N vs) (startD N.length ms ds) := by
  refine ⟨Step.refl u, ?_, fun i s hs => ?_, fun i j s t b hs _ os _ => ?_⟩
  · unfold L2.start startD
    rw [List.length_append, List.length_append, List.length_map, List.length_replicate, List.length_replicate, startS_len ms ds a.len2, a.len]
  · unfold startD at hs
    unfold L2.start
    have hl := startS_len ms ds a.len2
    have hl2 := a.len
    by_cases hi : i < (startS ms ds).length
    · rw [List.getElem?_append_left hi] at hs
      obtain ⟨v, hv, x⟩ := startS_ok a i s hs
      refine ⟨some v, ?_, x⟩
      rw [List.getElem?_append_left (by rw [List.length_map]; omega), List.getElem?_map, hv]
      rfl
    · rw [List.getElem?_append_right (by omega), List.getElem?_replicate] at hs
      split at hs
      · rename_i hlt
        cases hs
        refine ⟨none, ?_, trivial⟩
        rw [List.getElem?_append_right (by rw [List.length_map]; omega), List.getElem?_replicate, List.length_map, if_pos (by omega)]
      · cases hs
  · rw [startD_own _ _ _ i s hs] at os
    cases os
theorem DSs.nox {X : Cx} {st : List Stmt} {t : TS} {W : WS} (h : DSs X.nox st t W) : DSs X st t W := ⟨h.p.nox, h.l⟩
section
variable {P : Program} {w : World} {K : PySem.W.Frag} {mg : Str → Option Value} {base : Heap} {x qual : Str} {params : Arguments} {body : List Stmt} {scope : Scope} {f : Addr} {fd : FuncData} {N ps : List Str} {k : Nat} {ms : List Bool}
/-- THE RULE for a def that lets no exception out -/
theorem okD {g : GD} (F : FunD K x qual params body scope [] [] f fd) (S : FnScope N ps scope) (hl : ps.length = ms.length)
    (h : ∀ (cdv : Value) (A : Around) (outer : List PySem.Env) (s : Shared) (H : Hp) (E : XK), Room k (A.deeper (envOfC qual scope s.heap.objs.size f cdv)) → ∃ t W, DSs (cxOf CX0 P w K mg base N qual scope f cdv A outer s H E).nox body t W ∧
      ∀ ds Q, ds.length = ms.length → g ds Q → W { nx := fun _ => Q .non, rt := Q } (startD N.length ms ds)) : FnOk P w K mg base CX0 (k + 1) f fd ps (spD K ms g) := by
  refine F.ok S (fun vs H Q E hs => hs.len.trans hl.symm) (fun cdv A outer s H vs Q E hr hs => ?_)
  obtain ⟨t, W, hd, hw⟩ := h cdv A outer s H E hr
  obtain ⟨B, ds, R, u, a, hg, q⟩ := hs
  refine ⟨t, hd.p.nox, hd.l H B B H _ _ _ _ (start_env u a) (hw ds R a.len2.symm hg) (fun B' H' σ' δ' sb e p => ?_) (fun B' H' v d s r p => q B' H' v d s r p) (fun _ _ _ _ _ _ z => z.elim) (fun _ _ _ _ _ _ z => z.elim)⟩
  exact q B' H' _ _ e.step .non p
/-- .. for an __init__: the first slot is the instance -/
theorem okI {C : Addr} {g : GI} (F : FunD K x qual params body scope [] [] f fd) (S : FnScope N ps scope) (hl : ps.length = ms.length + 1)
    (h : ∀ (cdv : Value) (A : Around) (outer : List PySem.Env) (s : Shared) (H : Hp) (E : XK), Room k (A.deeper (envOfC qual scope s.heap.objs.size f cdv)) → ∃ t W, DSs (cxOf CX0 P w K mg base N qual scope f cdv A outer s H E).nox body t W ∧
      ∀ a ds Q, ds.length = ms.length → g ds Q → W { nx := fun δ => ∃ gs, δ[0]? = some (.oI a C gs) ∧ Q gs, rt := fun _ => False } (.oI a C [] :: startD (N.length - 1) ms ds)) : FnOk P w K mg base CX0 (k + 1) f fd ps (spI K C ms g) := by
  have hN : 0 < N.length := by
    have := congrArg List.length S.pre
    rw [List.length_take] at this
    omega
  refine F.ok S (fun vs H Q E hs => hs.len.trans hl.symm) (fun cdv A outer s H vs Q E hr hs => ?_)
  obtain ⟨t, W, hd, hw⟩ := h cdv A outer s H E hr
  obtain ⟨B, H0, y, dx, ws, ds, R, rfl, hy, rfl, u, a, hg, q⟩ := hs
  have e0 := start_env (N := N.drop 1) u a
  have hBy : B y = none := Same.none u hy
  have e1 : DL.Env K H0 B B (upd H0 y (.ins C dx [])) (start N (.ref y :: ws)) (.oI y C [] :: startD (N.length - 1) ms ds) := by
    have s1 := Step.raw (o := .ins C dx []) u hy
    have e2 := e0.mono s1
    have hstart : start N (.ref y :: ws) = some (.ref y) :: start (N.drop 1) ws := by
      unfold L2.start
      rw [List.map_cons, List.cons_append, List.length_cons, List.length_drop]
      congr 3
      omega
    rw [List.length_drop] at e2
    rw [hstart]
    refine ⟨s1, congrArg (· + 1) e2.len, fun i s hs => ?_, fun i j s t b hs ht os ot => ?_⟩
    · cases i with
      | zero => cases hs; exact ⟨_, rfl, rfl, hBy, hy, dx, [], upd_same, .nil⟩
      | succ i => exact e2.sl i s hs
    · cases i with
      | zero =>
        cases j with
        | zero => rfl
        | succ j =>
          have : t.own = none := startD_own _ _ _ j t ht
          rw [this] at ot
          cases ot
      | succ i =>
        have : s.own = none := startD_own _ _ _ i s hs
        rw [this] at os
        cases os
  refine ⟨t, hd.p.nox, hd.l H0 B B _ _ _ _ _ e1 (hw y ds R a.len2.symm hg) (fun B' H' σ' δ' sb e ⟨gs, h0, p⟩ => ?_) (fun _ _ _ _ _ _ z => z.elim) (fun _ _ _ _ _ _ z => z.elim) (fun _ _ _ _ _ _ z => z.elim)⟩
  obtain ⟨o, ho, rfl, hB, _, dx', fs, hH, rf⟩ := e.sl 0 _ h0
  exact q B' H' dx' fs gs e.step hH hB rf p
end
end DL
end
section
set_option Elab.async false
set_option linter.all false
set_option maxRecDepth 100000
/-! DL8: uses of defs by name, solid data, enumerate of a tuple, laws of the weakest wishes. -/
namespace DL
open PySem PySem.Spec PyProof.Rows L2

/-! ### data whose reading is kept -/
def solid : D → Bool
  | .lst _ => false
  | .dT _ => false
  | .dK _ => false
  | _ => true
theorem RepW.solid {K : PySem.W.Frag} {B H : Hp} {v : V} {d : D} (r : RepW K B H v d) (h : DL.solid d = true) : Rep K B v d := by
  cases r with
  | st r => exact r
  | ls => cases h
  | dT => cases h
  | dK => cases h
def wK (W : WE) : WE := fun δ P => W δ fun d => solid d = true ∧ P d
theorem DW.k {X : Cx} {e : Expr} {t : TE} {W : WE} (h : DW X e t W) : DE X e t (wK W) :=
  ⟨h.p, fun H0 B0 B H σ δ P Q e w q => h.l H0 B0 B H σ δ _ Q e w fun B' H' v d s r ⟨hs, p⟩ => q B' H' v d s (r.solid hs) p⟩

/-! ### uses -/
/-- the name x is a def with this promise -/
def Use (P : Program) (w : World) (K : PySem.W.Frag) (mg : Str → Option Value) (base : Heap) (x : Str) (k : Nat) (ms : List Bool) (g : GD) : Prop :=
  ∃ (f : Addr) (fd : FuncData) (ps : List Str), mg x = some (.ref f) ∧ PySem.W.keepIn K (.ref f) = true ∧ Binds K fd ps [] ∧ FnOk P w K mg base CX0 k f fd ps (spD K ms g)
/-- the method m of the class at C -/
def UseM (P : Program) (w : World) (K : PySem.W.Frag) (mg : Str → Option Value) (base : Heap) (C : Addr) (m : Str) (k : Nat) (ms : List Bool) (g : GD) : Prop :=
  ∃ (f : Addr) (fd : FuncData) (ps : List Str), Cls K C ∧ Meth K C m f ∧ Binds K fd ps [] ∧ FnOk P w K mg base CX0 k f fd ps (spD K (true :: ms) g)
/-- the class named x, at C, is made -/
def UseI (P : Program) (w : World) (K : PySem.W.Frag) (mg : Str → Option Value) (base : Heap) (x : Str) (C : Addr) (k : Nat) (ms : List Bool) (g : GI) : Prop :=
  ∃ (f : Addr) (fd : FuncData) (ps : List Str), mg x = some (.ref C) ∧ Mk K C f ∧ Binds K fd ps [] ∧ FnOk P w K mg base CX0 k f fd ps (spI K C ms g)
section
variable {X : Cx} {k j : Nat} {C : Addr} {ms : List Bool} {g : GD} {gi : GI} {x m : Str} {p pos apos : Pos} {e o : Expr} {es : List Expr} {ta : TE} {t : TA} {Wa : WE} {Wr : WA}
theorem Use.de (u : Use X.prog X.w X.K X.mg X.base x k ms g) (hr : Room j X.A) (ha : DA X ms (e :: es) t Wr) (hk : k ≤ j := by decide) (hg : Gl X x := by rfl) (hdb : (x == ("__debug__" : Str)) = false := by decide)
    (he : starEach (e :: es) X.env = (false, eval e X.env) :: starEach es X.env := by rfl) (hpl : (backTo pos (starEach es X.env)).any (·.1) = false := by rfl) : DE X (.Call (.Name x p) (e :: es) [] pos) (tCall (spD X.K ms g) [] E0 t) (wCB g Wr) := by
  obtain ⟨f, fd, ps, h1, h2, h3, h4⟩ := u
  exact de_call h4 (hr.mono hk) hg h1 h2 h3 pass0 ha hdb he hpl
theorem UseM.de {pl : Sem Bool} (u : UseM X.prog X.w X.K X.mg X.base C m k ms g) (hr : Room j X.A) (ho : DE X o ta Wa) (ha : DA X ms (e :: es) t Wr) (hk : k ≤ j := by decide)
    (hst : starEach (e :: es) X.env = (false, eval e X.env) :: starEach es X.env := by rfl) (hpl : (backTo pos (starEach es X.env)).any (·.1) = false := by rfl)
    (ht : eval (.Call (.Attribute o m apos) (e :: es) [] pos) X.env = (do
      let ov ← eval o X.env
      standAt apos.atName
      let (f, first) ← holding [ov] (getMethod ov m pl)
      callWith pos f first (backTo pos (starEach (e :: es) X.env)) (backToKw pos (keywordEach [] X.env))) := by rfl) :
    DE X (.Call (.Attribute o m apos) (e :: es) [] pos) (tMeth C m (spD X.K (true :: ms) g) [] E0 ta t) (wMeth C m g Wa Wr) := by
  obtain ⟨f, fd, ps, h1, h2, h3, h4⟩ := u
  exact de_meth ho h1 h2 h4 (hr.mono hk) h3 pass0 ha hst hpl ht
theorem UseI.de (u : UseI X.prog X.w X.K X.mg X.base x C k ms gi) (hr : Room j X.A) (ha : DA X ms (e :: es) t Wr) (hk : k + 1 ≤ j := by decide) (hg : Gl X x := by rfl) (hdb : (x == ("__debug__" : Str)) = false := by decide)
    (he : starEach (e :: es) X.env = (false, eval e X.env) :: starEach es X.env := by rfl) (hpl : (backTo pos (starEach es X.env)).any (·.1) = false := by rfl) : DE X (.Call (.Name x p) (e :: es) [] pos) (tMake C (spI X.K C ms gi) [] E0 t) (wMake C gi Wr) := by
  obtain ⟨f, fd, ps, h1, h2, h3, h4⟩ := u
  exact de_make h2 h4 (hr.mono hk) hg h1 h3 pass0 ha hdb he hpl
end
/-- what the head tells of a def -/
def TxtF (K : PySem.W.Frag) (mg : Str → Option Value) (x : Str) (st : Stmt) (ps : List Str) : Prop :=
  ∃ (f : Addr) (fd : FuncData), FunD K x x (defArgs st) (defBody st) (defScope st) [] [] f fd ∧ mg x = some (.ref f) ∧ Binds K fd ps []
section
variable {P : Program} {w : World} {K : PySem.W.Frag} {mg : Str → Option Value} {base : Heap} {x : Str} {st : Stmt} {N ps : List Str} {k : Nat} {ms : List Bool} {g : GD}
theorem TxtF.use (T : TxtF K mg x st ps) (S : FnScope N ps (defScope st)) (hl : ps.length = ms.length)
    (h : ∀ (f : Addr) (cdv : Value) (A : Around) (outer : List PySem.Env) (s : Shared) (H : Hp) (E : XK), Room k (A.deeper (envOfC x (defScope st) s.heap.objs.size f cdv)) → ∃ t W, DSs (cxOf CX0 P w K mg base N x (defScope st) f cdv A outer s H E).nox (defBody st) t W ∧
      ∀ ds Q, ds.length = ms.length → g ds Q → W { nx := fun _ => Q .non, rt := Q } (startD N.length ms ds)) : Use P w K mg base x (k + 1) ms g := by
  obtain ⟨f, fd, F, hm, hb⟩ := T
  exact ⟨f, fd, ps, hm, F.kp, hb, okD F S hl (h f)⟩
end

/-! ### the wishes -/
theorem forW_inv {α S : Type} {g : WG} {b : WS} {P : De} (f : α → D) (mk : S → St') (I : List α → S → Prop)
    (hn : ∀ s, I [] s → P.nx (mk s))
    (hc : ∀ x xs s (K : St' → Prop), I (x :: xs) s → (∀ s', I xs s' → K (mk s')) → g (f x) (mk s) fun δ1 => b { nx := K, rt := P.rt, ct := K, bk := P.nx } δ1) :
    ∀ (xs : List α) (s : S), I xs s → forW g b (xs.map f) P (mk s)
  | [], s, h => hn s h
  | x :: xs, s, h => hc x xs s _ h fun s' h' => forW_inv f mk I hn hc xs s' h'
/-- .. with what has been walked -/
theorem forW_inv2 {α S : Type} {g : WG} {b : WS} {P : De} (f : α → D) (mk : S → St') (I : List α → List α → S → Prop)
    (hn : ∀ ys s, I ys [] s → P.nx (mk s))
    (hc : ∀ ys x xs s (K : St' → Prop), I ys (x :: xs) s → (∀ s', I (ys ++ [x]) xs s' → K (mk s')) → g (f x) (mk s) fun δ1 => b { nx := K, rt := P.rt, ct := K, bk := P.nx } δ1) :
    ∀ (xs ys : List α) (s : S), I ys xs s → forW g b (xs.map f) P (mk s)
  | [], ys, s, h => hn ys s h
  | x :: xs, ys, s, h => hc ys x xs s _ h fun s' h' => forW_inv2 f mk I hn hc xs (ys ++ [x]) s' h'
theorem while_inv {S : Type} {c : WT} {b : WS} {P : De} (mk : S → St') (I : S → Prop) (μ : S → Nat)
    (h : ∀ s (K : St' → Prop), I s → (∀ s', I s' → μ s' < μ s → K (mk s')) → c (mk s) fun k => if k = true then b { nx := K, rt := P.rt, ct := K, bk := P.nx } (mk s) else P.nx (mk s)) :
    ∀ s, I s → wWhile c b P (mk s) := by
  have main : ∀ n s, I s → μ s < n → whW c b n P (mk s) := by
    intro n
    induction n with
    | zero => intro s _ h; exact absurd h (Nat.not_lt_zero _)
    | succ n ih => intro s hs hm; exact h s _ hs fun s' hs' hlt => ih s' hs' (by omega)
  exact fun s hs => ⟨μ s + 1, main _ s hs (Nat.lt_succ_self _)⟩
theorem lcW_map {α : Type} {δ : St'} {g : WG} {tt : WT} {te : WE} (f h : α → D) : ∀ (xs : List α) (n : Nat) (P : List D → Prop), n + xs.length ≤ sizeLine →
    (∀ x ∈ xs, ∀ (K1 : D → Prop) (K2 : Prop), K1 (h x) → g (f x) δ fun δ2 => tt δ2 fun b => if b = true then te δ2 K1 else K2) → P (xs.map h) → lcW δ g tt te n (xs.map f) P
  | [], n, P, _, _, p => p
  | x :: xs, n, P, hl, hx, p => by
    rw [List.length_cons] at hl
    exact hx x List.mem_cons_self _ _ ⟨by omega, lcW_map f h xs (n + 1) _ (by omega) (fun y hy => hx y (List.mem_cons_of_mem _ hy)) p⟩
theorem lcW_filter {α : Type} {δ : St'} {g : WG} {tt : WT} {te : WE} (f h : α → D) (c : α → Bool) : ∀ (xs : List α) (n : Nat) (P : List D → Prop), n + xs.length ≤ sizeLine →
    (∀ x ∈ xs, ∀ (K1 : D → Prop) (K2 : Prop), (if c x = true then K1 (h x) else K2) → g (f x) δ fun δ2 => tt δ2 fun b => if b = true then te δ2 K1 else K2) → P ((xs.filter c).map h) → lcW δ g tt te n (xs.map f) P
  | [], n, P, _, _, p => p
  | x :: xs, n, P, hl, hx, p => by
    rw [List.length_cons] at hl
    refine hx x List.mem_cons_self _ _ ?_
    cases e : c x with
    | true =>
      rw [if_pos rfl]
      rw [List.filter_cons_of_pos e] at p
      exact ⟨by omega, lcW_filter f h c xs (n + 1) _ (by omega) (fun y hy => hx y (List.mem_cons_of_mem _ hy)) p⟩
    | false =>
      rw [if_neg Bool.false_ne_true]
      rw [List.filter_cons_of_neg (by simp [e])] at p
      exact lcW_filter f h c xs n P (by omega) (fun y hy => hx y (List.mem_cons_of_mem _ hy)) p
/-- two clauses: f' x the inner sources -/
theorem lc2W_map {α β : Type} {δ : St'} {g g1 : WG} {tt tt1 : WT} {wi : WA} {te : WE} {vs1 : List Nat} (f : α → D) (r : α → List β) (f1 : α → β → D) (h : α → β → D) : ∀ (xs : List α) (n : Nat) (P : List D → Prop), n + (xs.flatMap r).length ≤ sizeLine →
    (∀ x ∈ xs, ∀ (K1 : St' → List D → Prop) (K2 : Prop), (∀ δ2, (∀ y ∈ r x, ∀ (J1 : D → Prop) (J2 : Prop), J1 (h x y) → g1 (f1 x y) (wipeD δ2 vs1) fun δ3 => tt1 δ3 fun b => if b = true then te δ3 J1 else J2) → K1 δ2 ((r x).map (f1 x))) → g (f x) δ fun δ2 => tt δ2 fun b => if b = true then wi δ2 (K1 δ2) else K2) →
    P (xs.flatMap fun x => (r x).map (h x)) → lc2W δ g tt wi g1 tt1 te vs1 n (xs.map f) P
  | [], n, P, _, _, p => p
  | x :: xs, n, P, hl, hx, p => by
    rw [List.flatMap_cons, List.length_append] at hl
    refine hx x List.mem_cons_self (fun δ2 es => lcW (wipeD δ2 vs1) g1 tt1 te n es fun ys => lc2W δ g tt wi g1 tt1 te vs1 (n + ys.length) (xs.map f) fun zs => P (ys ++ zs)) _ fun δ2 h2 => ?_
    refine lcW_map (f1 x) (h x) (r x) n _ (by omega) h2 ?_
    rw [List.length_map]
    exact lc2W_map f r f1 h xs _ _ (by omega) (fun y hy => hx y (List.mem_cons_of_mem _ hy)) p

end DL
end
section
set_option Elab.async false
set_option linter.all false
set_option maxRecDepth 100000
/-! DLE: enumerate of a tuple (the library's rules are for lists and texts). -/
namespace EnT
open PySem
open AutoSeq1 (wpAny_loadPart')
section
variable {prog : Program} {w : World} {A : Around} {E : Value → Shared → Prop} {s : Shared} {e it t : Addr} {i : Nat} {ys : Array Value} {x old : Value}
theorem step_tup {Q : Value → Shared → Prop} (ht : s.heap.IsTupleIter it t i) (hs : s.heap.IsTuple t ys) (hx : ys[i]? = some x)
    (k : ∀ h2, h2.IsTupleIter it t (i + 1) → Heap.SameBut it s.heap h2 → Q x { s with heap := h2 }) : wpAny (model prog w) A (Builtin.SmallTypes.nextOf (.ref it)) Q E s := by
  obtain ⟨oi, hoi, hci, hdi⟩ := id ht
  obtain ⟨ot, hot, _, nt, hdt⟩ := hs
  unfold Builtin.SmallTypes.nextOf
  refine wpAny_bind (wpAny_callSpecial?_slot (name := Str.ofString "__next__") ht.typeIs F.slot_tuple_iterator_next (wpAny_call_entry F.slot_tuple_iterator_next ht.typeIs F.entry_tuple_iterator_next ?_ (F.args_tuple_iterator_next_1 _)))
  show wpAny _ _ (field (.ref it) 0 >>= _) _ _ s; refine wpAny_bind (wpAny_field hoi hdi (x := .ref t) rfl ?_)
  show wpAny _ _ (if (Value.ref t == Value.none) = true then _ else _) _ _ s; rw [if_neg (show ¬ ((Value.ref t == Value.none) = true) from Bool.false_ne_true)]
  show wpAny _ _ (field (.ref it) 1 >>= _) _ _ s; refine wpAny_bind (wpAny_field hoi hdi (x := .int i 0) rfl ?_)
  show wpAny _ _ (seqItems? (.ref t) >>= _) _ _ s; refine wpAny_bind (wpAny_seqItems hot hdt ?_)
  simp only [Int.toNat_natCast, hx]
  refine wpAny_bind (wpAny_setField hoi hdi (by simp) (wpAny_pure ⟨x, rfl, wpAny_pure (k _ ?_ (Heap.SameBut.update ..))⟩))
  exact ⟨_, Heap.get?_update_self _ hoi (Obj.isFreed_of_fields (Obj.data_mapFields hdi _)), (Obj.cls_mapFields ..).trans hci, by rw [Obj.data_mapFields hdi]; simp [rawInt]⟩
theorem stop_tup {Q : Value → Shared → Prop} (hh : A.handled = none) (ht : s.heap.IsTupleIter it t i) (hs : s.heap.IsTuple t ys) (hx : ys[i]? = none)
    (k : ∀ h2 u, Heap.ExtBut it s.heap h2 → (∃ ou, h2.get? u = some ou ∧ ou.cls = .type "StopIteration") → E (.ref u) { s with heap := h2 }) : wpAny (model prog w) A (Builtin.SmallTypes.nextOf (.ref it)) Q E s := by
  obtain ⟨oi, hoi, hci, hdi⟩ := id ht
  obtain ⟨ot, hot, _, nt, hdt⟩ := hs
  unfold Builtin.SmallTypes.nextOf
  refine wpAny_bind (wpAny_callSpecial?_slot (name := Str.ofString "__next__") ht.typeIs F.slot_tuple_iterator_next (wpAny_call_entry F.slot_tuple_iterator_next ht.typeIs F.entry_tuple_iterator_next ?_ (F.args_tuple_iterator_next_1 _)))
  show wpAny _ _ (field (.ref it) 0 >>= _) _ _ s; refine wpAny_bind (wpAny_field hoi hdi (x := .ref t) rfl ?_)
  show wpAny _ _ (if (Value.ref t == Value.none) = true then _ else _) _ _ s; rw [if_neg (show ¬ ((Value.ref t == Value.none) = true) from Bool.false_ne_true)]
  show wpAny _ _ (field (.ref it) 1 >>= _) _ _ s; refine wpAny_bind (wpAny_field hoi hdi (x := .int i 0) rfl ?_)
  show wpAny _ _ (seqItems? (.ref t) >>= _) _ _ s; refine wpAny_bind (wpAny_seqItems hot hdt ?_)
  simp only [Int.toNat_natCast, hx]
  refine wpAny_bind (wpAny_rule (wpAny_bind (wpAny_setField hoi hdi (by simp) ?_)))
  show wpAny _ _ (newExc (.type "StopIteration") [] >>= _) _ _ _; refine wpAny_bind ?_; simp only [newExc, newTuple]
  refine wpAny_bind (wpAny_newObj_type ?_ (by size_fits)); refine wpAny_bind (m := firstArgMember _ _) (wpAny_of_eq (a := Value.none) (by first | rfl | (simp only [firstArgMember]; rfl)) ?_)
  refine wpAny_newObj_type ?_ (by size_fits); simp only [raiseNew]; refine wpAny_bind (wpAny_handled ?_)
  first | rw [show A.in1.handled = none from hh] | rw [hh]
  exact wpAny_bind (wpAny_pure (wpAny_throw (k _ _ (((Heap.SameBut.update ..).extBut.push _).push _) ⟨_, Heap.get?_push_size _ rfl, rfl⟩)))
theorem meets_new (t : Addr) (ys : Array Value) (n : Nat) (dct : Option Addr) (sl : Array (Option Value)) :
    Meets (Builtin.«enumerate.__new__» ⟨[.type "enumerate", .ref t], []⟩) (fun _ R s => s.heap.get? t = some { cls := .type "tuple", dict := dct, data := .seq ys n, slots := sl } ∧
      R (.ok (.ret (.ref (s.heap.push { cls := .type "tuple_iterator", data := .fields #[.ref t, .int 0 0] }).objs.size)))
        { s with heap := (s.heap.push { cls := .type "tuple_iterator", data := .fields #[.ref t, .int 0 0] }).push { cls := .type "enumerate", data := .fields #[.none, .bool false, .ref s.heap.objs.size, rawInt 0, .none, .none] } }) :=
  .of_wp fun prog w A R s h => by
    obtain ⟨hp, g, d, tk, os⟩ := s; obtain ⟨hl, h⟩ := h
    have hsub := sub_enumerate
    have hT : Heap.IsTuple (Shared.heap ⟨hp, g, d, tk, os⟩) t ys := ⟨_, hl, rfl, n, rfl⟩
    wp_walk using wpAny_loadPart' hl
    refine wpAny_stack_any fun st => wpAny_pure ?_
    split
    · rename_i c _ _ _ _ _
      cases (c == Value.type "enumerate") <;> (wp_walk using wpAny_loadPart' hl, wpAny_pyIter_tuple hT; exact ⟨_, rfl, h⟩)
    · wp_walk using wpAny_loadPart' hl, wpAny_pyIter_tuple hT
      exact ⟨_, rfl, h⟩
theorem call_new {Q : Value → Shared → Prop} (hT : s.heap.IsTuple t ys)
    (k : ∀ h2, IsEnum h2 (s.heap.objs.size + 1) s.heap.objs.size 0 .none → h2.IsTupleIter s.heap.objs.size t 0 → (∀ b o, s.heap.get? b = some o → h2.get? b = some o) → Q (.ref (s.heap.objs.size + 1)) { s with heap := h2 }) :
    wpAny (model prog w) A (call (.type "enumerate") [.ref t]) Q E s := by
  obtain ⟨⟨c, dct, dt, sl⟩, hl, hc, n, hd⟩ := hT
  replace hc : c = .type "tuple" := hc
  replace hd : dt = .seq ys n := hd
  subst hc hd
  refine callType_new F.called_enumerate (by decide) (F.typeCall_enumerate_1 _) (F.newCall_enumerate_1 _) (fun obj => F.args_object_init_2 obj _) F.entry_enumerate_new (meets_new t ys n dct sl) ⟨hl, ?_⟩
  have hz : (s.heap.push { cls := .type "tuple_iterator", data := .fields #[.ref t, .int 0 0] }).objs.size = s.heap.objs.size + 1 := Heap.size_push ..
  show _ ∧ _
  rw [hz]
  have he : IsEnum ((s.heap.push { cls := .type "tuple_iterator", data := .fields #[.ref t, .int 0 0] }).push { cls := .type "enumerate", data := .fields #[.none, .bool false, .ref s.heap.objs.size, rawInt 0, .none, .none] }) (s.heap.objs.size + 1) s.heap.objs.size 0 .none := by
    have q := Heap.get?_push_size (s.heap.push { cls := .type "tuple_iterator", data := .fields #[.ref t, .int 0 0] }) (o := { cls := .type "enumerate", data := .fields #[.none, .bool false, .ref s.heap.objs.size, rawInt 0, .none, .none] }) rfl
    rw [hz] at q
    exact q
  exact ⟨⟨_, he, rfl⟩, k _ he ⟨_, Heap.get?_push_of_some _ (Heap.get?_push_size _ rfl), rfl, rfl⟩ fun b o x => Heap.get?_push_of_some _ (Heap.get?_push_of_some _ x)⟩
theorem next_body {Q : Value → Shared → Prop} (he : IsEnum s.heap e it i old) (ht : s.heap.IsTupleIter it t i) (hs : s.heap.IsTuple t ys) (hx : ys[i]? = some x) (hne : e ≠ it)
    (k : ∀ h2, IsEnumOut h2 e it ((i : Int) + 1) x s.heap.objs.size → h2.IsTupleIter it t (i + 1) → h2.get? s.heap.objs.size = some { cls := .type "tuple", data := .seq #[.int i s.toks, x] } → h2.objs.size = s.heap.objs.size + 1 →
      (∀ b o, b ≠ e → b ≠ it → s.heap.get? b = some o → h2.get? b = some o) → Q (.ref s.heap.objs.size) { s with heap := h2, toks := s.toks + 1 }) :
    wpAny (model prog w) A (Builtin.«enumerate.__next__» ⟨[.ref e], []⟩) (fun fin s' => ∃ v, fin = .done (.ret v) ∧ Q v s') E s := by
  obtain ⟨hp, g, d, tk, os⟩ := s
  show wpAny _ _ (field (.ref e) 2 >>= _) _ _ _
  refine wpAny_bind (wpAny_field he rfl (x := .ref it) rfl (wpAny_bind (step_tup ht hs hx fun g1 it1 sb1 => ?_)))
  replace sb1 : Heap.SameBut it hp g1 := sb1
  have e1 : IsEnum g1 e it i old := (sb1.2 e hne).trans he
  show wpAny _ _ (field (.ref e) 3 >>= _) _ _ ⟨g1, g, d, tk, os⟩; refine wpAny_bind (wpAny_field e1 rfl (x := rawInt i) rfl ?_)
  show wpAny _ _ (field (.ref e) 4 >>= _) _ _ ⟨g1, g, d, tk, os⟩; refine wpAny_bind (wpAny_field e1 rfl (x := .none) rfl ?_)
  show wpAny _ _ (mkInt i >>= _) _ _ ⟨g1, g, d, tk, os⟩; refine wpAny_bind (wpAny_mkInt ?_)
  show wpAny _ _ (setField (.ref e) 3 (rawInt ((i : Int) + 1)) >>= _) _ _ ⟨g1, g, d, tk + 1, os⟩
  refine wpAny_bind (wpAny_setField_rec e1 (by simp) fun g2 e2 sb2 => ?_)
  replace sb2 : Heap.SameBut e g1 g2 := sb2
  replace e2 : IsEnum g2 e it ((i : Int) + 1) old := e2
  show wpAny _ _ (setField (.ref e) 4 .none >>= _) _ _ ⟨g2, g, d, tk + 1, os⟩
  refine wpAny_bind (wpAny_setField_rec e2 (by simp) fun g3 e3 sb3 => ?_)
  replace sb3 : Heap.SameBut e g2 g3 := sb3
  replace e3 : IsEnum g3 e it ((i : Int) + 1) old := e3
  show wpAny _ _ (newTuple [.int i tk, x] >>= _) _ _ ⟨g3, g, d, tk + 1, os⟩; refine wpAny_bind (wpAny_newTuple ?_)
  have e4 : IsEnum (g3.push { cls := .type "tuple", data := .seq #[.int i tk, x] }) e it ((i : Int) + 1) old := Heap.get?_push_of_some _ e3
  generalize hg4 : g3.push { cls := .type "tuple", data := .seq #[.int i tk, x] } = g4 at e4
  have hsz : g3.objs.size = hp.objs.size := by rw [sb3.1, sb2.1, sb1.1]
  have hel : e < hp.objs.size := Heap.lt_size he
  have t4 : g4.get? hp.objs.size = some { cls := .type "tuple", data := .seq #[.int i tk, x] } := by rw [← hg4, ← hsz]; exact Heap.get?_push_size _ rfl
  have z4 : g4.objs.size = hp.objs.size + 1 := by rw [← hg4, Heap.size_push, hsz]
  have k4 : ∀ b o, b ≠ e → b ≠ it → hp.get? b = some o → g4.get? b = some o := fun b o be bi hb => by
    rw [← hg4]
    exact Heap.get?_push_of_some _ (sb3.extBut b o be (sb2.extBut b o be (sb1.extBut b o bi hb)))
  have it4 : g4.IsTupleIter it t (i + 1) := by
    rw [← hg4]
    obtain ⟨o, ho, r⟩ := (it1.extBut sb2.extBut (Ne.symm hne)).extBut sb3.extBut (Ne.symm hne)
    exact ⟨o, Heap.get?_push_of_some _ ho, r⟩
  show wpAny _ _ (Builtin.SmallTypes.ownedTupleIsFree (.ref e) >>= _) _ _ ⟨g4, g, d, tk + 1, os⟩
  rw [hsz]
  clear hg4 e3 sb3 e2 sb2 e1 sb1 it1 hsz g3 g2 g1
  refine wpAny_bind ?_
  unfold Builtin.SmallTypes.ownedTupleIsFree
  refine wpAny_bind (wpAny_field e4 rfl (x := .none) rfl (wpAny_pure ?_))
  simp only [if_true]
  refine wpAny_bind (wpAny_rule (wpAny_bind (wpAny_field e4 rfl (x := old) rfl (wpAny_bind (wpAny_setField_rec e4 (by simp) fun g5 e5 sb5 => ?_)))))
  replace sb5 : Heap.SameBut e g4 g5 := sb5
  replace e5 : IsEnum g5 e it ((i : Int) + 1) x := e5
  show wpAny _ _ (Builtin.SmallTypes.ownedTupleHandOut (.ref e) (.ref hp.objs.size) >>= _) _ _ ⟨g5, g, d, tk + 1, os⟩
  refine wpAny_bind ?_
  unfold Builtin.SmallTypes.ownedTupleHandOut
  refine wpAny_bind (wpAny_setField_rec e5 (by simp) fun g6 e6 sb6 => ?_)
  replace sb6 : Heap.SameBut e g5 g6 := sb6
  replace e6 : IsEnumOut g6 e it ((i : Int) + 1) x hp.objs.size := e6
  refine wpAny_setField_rec e6 (by simp) fun g7 e7 sb7 => ?_
  replace sb7 : Heap.SameBut e g6 g7 := sb7
  replace e7 : IsEnumOut g7 e it ((i : Int) + 1) x hp.objs.size := e7
  refine wpAny_bind (wpAny_letGo (wpAny_pure ⟨_, rfl, k g7 e7 ?_ ?_ ?_ ?_⟩))
  · exact ((it4.extBut sb5.extBut (Ne.symm hne)).extBut sb6.extBut (Ne.symm hne)).extBut sb7.extBut (Ne.symm hne)
  · exact sb7.extBut _ _ (Nat.ne_of_gt hel) (sb6.extBut _ _ (Nat.ne_of_gt hel) (sb5.extBut _ _ (Nat.ne_of_gt hel) t4))
  · rw [sb7.1, sb6.1, sb5.1, z4]
  · exact fun b o be bi hb => sb7.extBut b o be (sb6.extBut b o be (sb5.extBut b o be (k4 b o be bi hb)))
theorem next_item {Q : Option Value → Shared → Prop} (he : IsEnum s.heap e it i old) (ht : s.heap.IsTupleIter it t i) (hs : s.heap.IsTuple t ys) (hx : ys[i]? = some x) (hne : e ≠ it)
    (k : ∀ h2, IsEnumOut h2 e it ((i : Int) + 1) x s.heap.objs.size → h2.IsTupleIter it t (i + 1) → h2.get? s.heap.objs.size = some { cls := .type "tuple", data := .seq #[.int i s.toks, x] } → h2.objs.size = s.heap.objs.size + 1 →
      (∀ b o, b ≠ e → b ≠ it → s.heap.get? b = some o → h2.get? b = some o) → Q (some (.ref s.heap.objs.size)) { s with heap := h2, toks := s.toks + 1 }) : wpAny (model prog w) A (pyNext (.ref e)) Q E s := by
  have hT : s.TypeIs (.ref e) "enumerate" := ⟨_, he, rfl⟩
  unfold pyNext
  exact wpAny_bind (wpAny_attempt (wpAny_callSpecial?_slot (name := Str.ofString "__next__") hT F.slot_enumerate_next (wpAny_call_entry F.slot_enumerate_next hT F.entry_enumerate_next
    (next_body he ht hs hx hne fun h2 a b c d f => wpAny_pure (k h2 a b c d f)) (F.args_enumerate_next_1 _))))
theorem next_end {Q : Option Value → Shared → Prop} (hh : A.handled = none) (he : IsEnum s.heap e it i old) (ht : s.heap.IsTupleIter it t i) (hs : s.heap.IsTuple t ys) (hx : ys[i]? = none)
    (k : ∀ h2, Heap.ExtBut it s.heap h2 → Q none { s with heap := h2 }) : wpAny (model prog w) A (pyNext (.ref e)) Q E s := by
  have hT : s.TypeIs (.ref e) "enumerate" := ⟨_, he, rfl⟩
  unfold pyNext
  refine wpAny_bind (wpAny_attempt (wpAny_callSpecial?_slot (name := Str.ofString "__next__") hT F.slot_enumerate_next (wpAny_call_entry F.slot_enumerate_next hT F.entry_enumerate_next ?_ (F.args_enumerate_next_1 _))))
  show wpAny _ _ (field (.ref e) 2 >>= _) _ _ _
  refine wpAny_bind (wpAny_field he rfl (x := .ref it) rfl (wpAny_bind (stop_tup hh ht hs hx fun h2 u eb hu => ?_)))
  obtain ⟨ou, hou, hc⟩ := hu
  exact wpAny_bind (wpAny_isInstance (T := "StopIteration") (b := true) ⟨ou, hou, hc⟩ isSubtype_stop (wpAny_pure (k _ eb)))
end
end EnT
namespace DL
open PySem PySem.Spec PyProof.Rows L2
/-- the tuple at a, each item in a new pair -/
def IteT (K : PySem.W.Frag) (a : Addr) : It :=
  ⟨fun i H => ∃ (xs : List V) (x : V), SqT K H a xs ∧ xs[i]? = some x, fun i H v H' => ∃ T x, v = .ref T ∧ H T = none ∧ H' = upd H T (.tup [.int (i : Nat), x]) ∧ ∀ xs, SqT K H a xs → xs[i]? = some x, fun i H => ∃ xs : List V, SqT K H a xs ∧ xs.length ≤ i⟩
theorem turn_enT {P : Program} {w : World} {K : PySem.W.Frag} {elts : List Expr} {kk : Nat} {tpos : Pos} (a e it : Addr) :
    L2.Turn P w K (.Tuple elts kk tpos) (IteT K a) [e, it] e (fun i h => (∃ old, IsEnum h e it ((i : Nat) : Int) old) ∧ h.IsTupleIter it a i ∧ e ≠ it) where
  mem := by simp
  obj := fun i h st b hb => by
    obtain ⟨⟨old, he⟩, ⟨o, ho, hc, hd⟩, _⟩ := st
    have hb2 : b = e ∨ b = it := by simpa using hb
    rcases hb2 with z | z
    · rw [z]; exact ⟨_, he, fun v q => nomatch q⟩
    · rw [z]; exact ⟨o, ho, fun v q => by rw [hd] at q; cases q⟩
  keep := fun i h h' st k => let ⟨⟨old, he⟩, hi, hne⟩ := st; ⟨⟨old, k e (by simp) _ he⟩, hi.at fun o q => k it (by simp) o q, hne⟩
  item := by
    intro X hP hw hK hc i pins s σ H E I hf st hg
    subst hP hw hK
    obtain ⟨⟨old, he⟩, hit, hne⟩ := st
    obtain ⟨xs, x, hq, hx⟩ := hg
    obtain ⟨its, rv, p, hz⟩ := I.tuple hq
    obtain ⟨u, hu, ru⟩ := rv.get hx
    have hel : e < s.heap.objs.size := Heap.lt_size he
    have hil : it < s.heap.objs.size := by obtain ⟨_, q, _⟩ := hit; exact Heap.lt_size q
    refine EnT.next_item he hit (show s.heap.IsTuple a its.toArray from p) (x := u) (by simpa using hu) hne fun h' ho hit' hT hsz hk => ?_
    refine ⟨_, rfl, wpAny_letOwnedTupleGo_enum (s := { s with heap := h', toks := s.toks + 1 }) ho fun h'' he' sb => ?_⟩
    have hT2 : h''.get? s.heap.objs.size = some { cls := .type "tuple", data := .seq #[.int i s.toks, u] } := (sb.2 _ (Nat.ne_of_gt hel)).trans hT
    have new : ObjOk X.prog X.w (upd H s.heap.objs.size (.tup [.int (i : Nat), x])) h'' s.heap.objs.size (.tup [.int (i : Nat), x]) :=
      ⟨by show 2 ≤ sizeLine; decide, [.int i s.toks, u], .cons ⟨_, rfl⟩ (.cons ru .nil), ⟨_, hT2, rfl, _, rfl⟩⟩
    have I1 : Inv X pins σ (upd H s.heap.objs.size (.tup [.int (i : Nat), x])) { s with heap := h'', toks := s.toks + 1 } :=
      I.turnedNew (ch := [e, it]) (fun b ob hb q => (sb.2 b (fun z => hb (by simp [z]))).trans (hk b ob (fun z => hb (by simp [z])) (fun z => hb (by simp [z])) q)) hf (Nat.le_refl _) new
    refine ⟨.ref s.heap.objs.size, _, I1, rfl, ⟨_, x, rfl, I.hok.fresh (Nat.le_refl _), rfl, fun ys hy => by rw [I.tuple_inj hy hq]; exact hx⟩, ⟨⟨u, ?_⟩, hit'.at fun o q => (sb.2 it (Ne.symm hne)).trans q, hne⟩, fun b hb => ?_⟩
    · have e1 : ((i + 1 : Nat) : Int) = (i : Int) + 1 := by omega
      rw [e1]; exact he'
    · have hlt : b < s.heap.objs.size := by
        have hb2 : b = e ∨ b = it := by simpa using hb
        rcases hb2 with z | z
        · rw [z]; exact hel
        · rw [z]; exact hil
      rw [upd_ne (Nat.ne_of_lt hlt)]
      exact (hf b hb).1
  done := by
    intro X hP hw hK hc i pins s σ H E I hf st hg
    subst hP hw hK
    obtain ⟨⟨old, he⟩, hit, hne⟩ := st
    obtain ⟨xs, hq, hx⟩ := hg
    obtain ⟨its, rv, p, hz⟩ := I.tuple hq
    obtain ⟨f0, f1, f2, f3, f4, f5⟩ := hf it (by simp)
    have hl := rv.length
    exact EnT.next_end (I.ok.hd hc) he hit (show s.heap.IsTuple a its.toArray from p) (by simp; omega) fun h' eb => ⟨rfl, I.turned (t' := s.toks) (fun b o hb q => eb b o hb q) f0 f1 f3 f4 f5⟩
  self := fun A i s Q E st h => let ⟨⟨_, he⟩, _⟩ := st; wpAny_pyIter_enum he h
def iEnT (K : PySem.W.Frag) (ta : TA) : TI := fun σ H R => ta σ H fun vs H1 => ∃ a xs, vs = [.ref a] ∧ SqT K H1 a xs ∧ R (IteT K a) H1
theorem pi_enT {X : Cx} {e : Expr} {ta : TA} {p pos tpos : Pos} {elts : List Expr} {kk : Nat} (hg : Gl X "enumerate") (hm : X.mg "enumerate" = none) (ha : PA X [e] ta) (hs : starEach [e] X.env = [(false, eval e X.env)] := by rfl) :
    PI X (.Tuple elts kk tpos) (.Call (.Name "enumerate" p) [e] [] pos) (iEnT X.K ta) := by
  refine ⟨fun pins s σ H R I h => ?_⟩
  refine Call_ (ld_blt I hg hm boot_enumerate (PyProof.Rows.callWith_type1 (thn (ha.run pos pins s σ H _ I h) fun us s1 ⟨vs, H1, I1, r1, q1⟩ => ?_) hs rfl))
  obtain ⟨a, xs, rfl, hq, q⟩ := q1
  cases r1 with
  | cons r rr =>
    cases rr
    cases r
    obtain ⟨its, rv, p', hz⟩ := I1.tuple hq
    refine EnT.call_new (show s1.heap.IsTuple a its.toArray from p') fun h' he hit hk => wpAny_pyIter_enum he ?_
    have I2 : Inv X pins σ H1 { s1 with heap := h' } := I1.kept (t' := s1.toks) hk
    refine ⟨s1.heap.objs.size + 1, [s1.heap.objs.size + 1, s1.heap.objs.size], _, _, H1, rfl, I2, turn_enT a (s1.heap.objs.size + 1) s1.heap.objs.size, ⟨⟨.none, he⟩, hit, Nat.succ_ne_self _⟩, fun b hb => ?_, q⟩
    have hb2 : b = s1.heap.objs.size + 1 ∨ b = s1.heap.objs.size := by simpa using hb
    have hle : s1.heap.objs.size ≤ b := by
      rcases hb2 with z | z
      · rw [z]; exact Nat.le_add_right _ _
      · rw [z]; exact Nat.le_refl _
    exact I1.fpOk hle (I1.hok.fresh hle)
theorem iter_enT {K : PySem.W.Frag} {Hs B : Hp} {a : Addr} {xs : List V} {ds : List D} (h : B a = some (.tup xs)) (r : Reps K B xs ds) : IterOk K Hs B (IteT K a) (enD 0 ds) where
  go := fun i B' H' b u s hi => by
    rw [enD_len] at hi
    obtain ⟨v, hv, _⟩ := r.get (List.getElem?_eq_getElem hi)
    exact ⟨xs, v, SqT.of (u _ _ (b _ _ h)), hv⟩
  yld := fun i B' H' x H2 b u s hi hy => by
    obtain ⟨T, v, rfl, hT, rfl, hy⟩ := hy
    obtain ⟨d, hd, q⟩ := r.getV (hy xs (SqT.of (u _ _ (b _ _ h))))
    have st := Step.new (o := .tup [.int (i : Nat), v]) u hT
    refine ⟨_, .tup [.int (i : Nat), d], by rw [enD_get, hd, Nat.zero_add]; rfl, st, .tup upd_same (.cons (.int _) (.cons ((q.mono b).mono st.b) .nil))⟩
  stop := fun i B' H' b u s hi => ⟨xs, SqT.of (u _ _ (b _ _ h)), by rw [r.len, ← enD_len 0]; exact hi⟩
def wEnT (Wr : WA) : WA := fun δ P => Wr δ fun ds => ∃ es, ds = [.tup es] ∧ P (enD 0 es)
theorem dip_enT {X : Cx} {e : Expr} {ta : TA} {Wr : WA} {elts : List Expr} {kk : Nat} {p pos tpos : Pos} (hg : Gl X "enumerate") (hm : X.mg "enumerate" = none) (ha : DA X [false] [e] ta Wr) (hs : starEach [e] X.env = [(false, eval e X.env)] := by rfl) :
    DIp X (.Tuple elts kk tpos) (.Call (.Name "enumerate" p) [e] [] pos) (iEnT X.K ta) (wEnT Wr) := by
  refine ⟨pi_enT hg hm ha.p hs, fun H0 B0 B H σ δ P R e h q => ha.l H0 B0 B H σ δ _ _ e h fun B1 H1 vs ds s ar ⟨es, hd, p⟩ => ?_⟩
  obtain ⟨v, d, rfl, rfl, r⟩ := ar.one
  cases hd
  obtain ⟨a, xs, rfl, hb, r⟩ := r.tuple
  exact ⟨a, xs, rfl, SqT.of (s.u _ _ hb), q B1 H1 _ _ s (iter_enT hb r) p⟩
end DL
namespace DL
open PySem PySem.Spec PyProof.Rows L2
/-! ### an int in a list of ints -/
def wInI (neg : Bool) : D → D → (D → Prop) → Prop := fun a b P => ∃ (i : Int) (ns : List Int), a = .int i ∧ b = .lst (ns.map .int) ∧ P (.bl (if neg then !decide (i ∈ ns) else decide (i ∈ ns)))
theorem inV_int (i : Int) : ∀ ns : List Int, inV (.int i) (ns.map V.int) = decide (i ∈ ns)
  | [] => by simp [inV]
  | n :: ns => by
    have h := inV_int i ns
    unfold inV at h ⊢
    rw [List.map_cons, List.any_cons, h]
    show ((n == i) || decide (i ∈ ns)) = decide (i ∈ n :: ns)
    by_cases e : n = i
    · subst e
      simp
    · have e2 : i ≠ n := fun z => e z.symm
      simp [e, e2]
theorem flat_ints : ∀ ns : List Int, (ns.map V.int).all flatV = true
  | [] => rfl
  | _ :: ns => flat_ints ns
theorem lo_inI {K : PySem.W.Frag} {neg : Bool} : LO K (rIn K neg) (wInI neg) := fun B H x y a b P Q u r1 r2 h q => by
  obtain ⟨i, ns, rfl, rfl, p⟩ := h
  obtain ⟨a, rfl, hs⟩ := r2.intsL u
  rw [r1.int]
  refine ⟨a, _, rfl, .inl hs, rfl, flat_ints ns, ?_⟩
  rw [inV_int]
  exact q B H _ _ (Step.refl u) (.bl _) p
end DL
end
section
set_option Elab.async false
set_option linter.all false
set_option maxRecDepth 100000
/-! DLF: list(range(..)), tuple(range(..)). -/
namespace DL
open PySem PySem.Spec PyProof.Rows L2
theorem rgV_eq (a b : Int) : rgV a b = ((List.range (b - a).toNat).map fun i => a + ((i : Nat) : Int)).map V.int := by
  unfold rgV
  rw [List.map_map]
  rfl
theorem rngD_eq (a : Int) (n : Nat) : rngD a n = ((List.range n).map fun i => a + ((i : Nat) : Int)).map D.int := by
  unfold rngD
  rw [List.map_map]
  rfl
theorem reps_rg {K : PySem.W.Frag} {B : Hp} (a b : Int) : Reps K B (rgV a b) (rngD a (b - a).toNat) := by
  rw [rgV_eq, rngD_eq]
  exact reps_ints _
section
variable {X : Cx} {a b : Expr} {ta tb : TE} {Wa Wb : WE} {p p2 pos pos2 : Pos}
theorem df_listR2 (hg : Gl X "list") (hm : X.mg "list" = none) (hgr : Gl X "range") (hmr : X.mg "range" = none) (hc : X.calm = true) (ha : DW X a ta Wa) (hb : DW X b tb Wb)
    (n1 : starEach [a, b] X.env = (false, eval a X.env) :: starEach [b] X.env := by rfl) (n2 : starEach [b] X.env = (false, eval b X.env) :: starEach [] X.env := by rfl) (hp : (backTo pos2 (starEach [b] X.env)).any (·.1) = false := by rfl)
    (na : starEach [.Call (.Name "range" p2) [a, b] [] pos2] X.env = (false, eval (.Call (.Name "range" p2) [a, b] [] pos2) X.env) :: starEach [] X.env := by rfl) :
    DF X (.Call (.Name "list" p) [.Call (.Name "range" p2) [a, b] [] pos2] [] pos) (tLstRg (tRg2 ta tb)) (fun δ P => Wa δ fun d => Wb δ fun d' => ∃ i j, d = .int i ∧ d' = .int j ∧ RgOk i j ∧ P (rngD i (j - i).toNat)) := by
  refine ⟨pe_listRg hc hg hm (prg_2 hgr hmr ha.p hb.p n1 n2 hp) na, fun H0 B0 B H σ δ P Q e h q => ha.l H0 B0 B H σ δ _ _ e h fun B1 H1 v d s1 r1 h1 => hb.l H0 B0 B1 H1 σ δ _ _ (e.mono s1) h1 fun B2 H2 v' d' s2 r2 ⟨i, j, hd, hd', ok, w⟩ => ?_⟩
  subst hd hd'
  refine ⟨i, j, (r1.mono s2.b s2.h).int, r2.int, ok, fun l hl => ?_⟩
  have s3 := Step.raw (o := .lst (rgV i j)) s2.u hl
  exact q B2 _ l _ _ ((s1.trans s2).trans s3) (Same.none s1.h (Same.none s2.h hl)) upd_same (Same.none s2.u hl) (reps_rg i j) w
theorem de_tupR1 (hg : Gl X "tuple") (hm : X.mg "tuple" = none) (hgr : Gl X "range") (hmr : X.mg "range" = none) (hc : X.calm = true) (ha : DW X a ta Wa)
    (n1 : starEach [a] X.env = (false, eval a X.env) :: starEach [] X.env := by rfl)
    (na : starEach [.Call (.Name "range" p2) [a] [] pos2] X.env = (false, eval (.Call (.Name "range" p2) [a] [] pos2) X.env) :: starEach [] X.env := by rfl) :
    DE X (.Call (.Name "tuple" p) [.Call (.Name "range" p2) [a] [] pos2] [] pos) (tTupRg (tRg1 ta)) (fun δ P => Wa δ fun d => ∃ j, d = .int j ∧ RgOk 0 j ∧ P (.tup (rngD 0 j.toNat))) := by
  refine ⟨pe_tupRg hc hg hm (prg_1 hgr hmr ha.p n1) na, fun H0 B0 B H σ δ P Q e h q => ha.l H0 B0 B H σ δ _ _ e h fun B1 H1 v d s1 r1 ⟨j, hd, ok, w⟩ => ?_⟩
  subst hd
  refine ⟨j, r1.int, ok, fun l hl => ?_⟩
  have s3 := Step.new (o := .tup (rgV 0 j)) s1.u hl
  have e : (j - 0).toNat = j.toNat := by omega
  refine q _ _ _ _ (s1.trans s3) (.tup upd_same (Reps.mono s3.b ?_)) w
  rw [← e]
  exact reps_rg 0 j
end
end DL
end
section
set_option Elab.async false
set_option linter.all false
set_option maxRecDepth 100000
/-! DLG: the rules with the fragment named (inside a comprehension the context's own field does not unify). -/
namespace DL
open PySem PySem.Spec PyProof.Rows L2
section
variable {X : Cx} {K : PySem.W.Frag} {a b c e e1 e2 o value tg : Expr} {es elts : List Expr} {ta tb te : TE} {t t1 : TA} {Wa Wb We : WE} {Wr : WA} {ms : List Bool} {pos p p2 pos2 tpos apos : Pos} {kk : Nat} {x y m f : Str} {k j : Nat} {C : Addr} {g : GD} {gi : GI}
theorem dt_truK (ha : DW X a ta Wa) (he : ∀ whole, isTrue a X.env whole = (do let v ← whole; standAt a.pos; holding [v] (truthy v)) := by intro _; rfl) (hK : X.K = K := by rfl) : DT X a (fun σ H Q => ta σ H fun x H' => ∃ k, TruV K x H' k ∧ Q k H') (wTru Wa) := by
  subst hK; exact dt_tru ha he
theorem de_ixK (ha : DW X a ta Wa) (hb : DW X b tb Wb) (hs : PlainIx b := by intro _ _; rfl) (hK : X.K = K := by rfl) : DE X (.Subscript a b pos) (tOp (rIx K) ta tb) (wOp wIx Wa Wb) := by
  subst hK; exact de_ix ha hb hs
variable {lo hi : Option Expr} {tl th : TO} {Wl Wh : WO}
theorem de_slTK (ha : DW X a ta Wa) (hl : DO X lo tl Wl) (hh : DO X hi th Wh) (hK : X.K = K := by rfl) : DE X (.Subscript a (.Slice lo hi none p2) pos) (tSl (rSlA K) ta tl th) (fun δ P => Wa δ fun d => Wl δ fun l => Wh δ fun h => ∃ ds, d = .tup ds ∧ P (.tup (cutD ds l h))) := by
  subst hK; exact de_slT ha hl hh
theorem df_slLK (ha : DW X a ta Wa) (hl : DO X lo tl Wl) (hh : DO X hi th Wh) (hK : X.K = K := by rfl) : DF X (.Subscript a (.Slice lo hi none p2) pos) (tSl (rSlL K) ta tl th) (fun δ P => Wa δ fun d => Wl δ fun l => Wh δ fun h => ∃ ds, d = .lst ds ∧ P (cutD ds l h)) := by
  subst hK; exact df_slL ha hl hh
theorem dip_seqK (he : DE X e te We) (hK : X.K = K := by rfl) : DIp X tg e (iSeq K te) (wSeqI We) := by
  subst hK; exact dip_seq he
theorem diw_seqK (he : DW X e te We) (hK : X.K = K := by rfl) : DIw X tg e (iSeq K te) (wSeqI We) := by
  subst hK; exact diw_seq he
theorem dip_nmK (i : Nat) (hN : X.N[i]? = some x := by rfl) (hv : Vis X.env.scope x := by first | exact Or.inl rfl | exact Or.inr (Or.inl rfl) | exact Or.inr (Or.inr rfl)) (hd : (x == ("__debug__" : Str)) = false := by decide)
    (hcd : (x == ("__classdict__" : Str)) = false := by decide) (hK : X.K = K := by rfl) : DIp X tg (.Name x pos) (iSeq K (tVar i)) (wSeqI (wPs i)) := by
  subst hK; exact dip_nm i hN hv hd hcd
theorem diw_enK (hg : Gl X "enumerate") (hm : X.mg "enumerate" = none) (ha : DA X [false] [e] t Wr) (hs : starEach [e] X.env = [(false, eval e X.env)] := by rfl) (hK : X.K = K := by rfl) :
    DIw X (.Tuple elts kk tpos) (.Call (.Name "enumerate" p) [e] [] pos) (iEnum K t) (wEn Wr) := by
  subst hK; exact diw_en hg hm ha hs
theorem dip_enTK (hg : Gl X "enumerate") (hm : X.mg "enumerate" = none) (ha : DA X [false] [e] t Wr) (hs : starEach [e] X.env = [(false, eval e X.env)] := by rfl) (hK : X.K = K := by rfl) :
    DIp X (.Tuple elts kk tpos) (.Call (.Name "enumerate" p) [e] [] pos) (iEnT K t) (wEnT Wr) := by
  subst hK; exact dip_enT hg hm ha hs
theorem dip_enK (i : Nat) (hg : Gl X "enumerate") (hm : X.mg "enumerate" = none) (hN : X.N[i]? = some x := by rfl) (hv : Vis X.env.scope x := by first | exact Or.inl rfl | exact Or.inr (Or.inl rfl) | exact Or.inr (Or.inr rfl)) (hd : (x == ("__debug__" : Str)) = false := by decide)
    (hcd : (x == ("__classdict__" : Str)) = false := by decide) (hs : starEach [.Name x p2] X.env = [(false, eval (.Name x p2) X.env)] := by rfl) (hK : X.K = K := by rfl) :
    DIp X (.Tuple elts kk tpos) (.Call (.Name "enumerate" p) [.Name x p2] [] pos) (iEnum K (tCons (tVar i) tNil)) (wEnN i) := by
  subst hK; exact dip_en i hg hm hN hv hd hcd hs
theorem diw_zpK (hg : Gl X "zip") (hm : X.mg "zip" = none) (ha : DA X [false, false] [e, e2] t Wr)
    (hs : starEach [e, e2] X.env = (false, eval e X.env) :: starEach [e2] X.env := by rfl) (hpl : (backTo pos (starEach [e2] X.env)).any (·.1) = false := by rfl) (hK : X.K = K := by rfl) :
    DIw X (.Tuple elts kk tpos) (.Call (.Name "zip" p) [e, e2] [] pos) (iZip K t) (wZp Wr) := by
  subst hK; exact diw_zp hg hm ha hs hpl
theorem dg_tupK {u : TGs} {Wu : WGs} {ts : List Nat} {n : Nat} (hc : X.calm = true) (h : DGs X es u ts Wu) (hn : (assignEach es X.env).length = n := by rfl) (hst : (assignEach es X.env).findIdx? (fun x => x.1) = none := by rfl) (hK : X.K = K := by rfl) :
    DG X (.Tuple es kk pos) (gTup K n u) ts (gTp n Wu) := by
  subst hK; exact dg_tup hc h hn hst
theorem Use.deK (u : Use X.prog X.w X.K X.mg X.base x k ms g) (hr : Room j X.A) (ha : DA X ms (e :: es) t Wr) (hk : k ≤ j := by decide) (hg : Gl X x := by rfl) (hdb : (x == ("__debug__" : Str)) = false := by decide)
    (he : starEach (e :: es) X.env = (false, eval e X.env) :: starEach es X.env := by rfl) (hpl : (backTo pos (starEach es X.env)).any (·.1) = false := by rfl) (hK : X.K = K := by rfl) : DE X (.Call (.Name x p) (e :: es) [] pos) (tCall (spD K ms g) [] E0 t) (wCB g Wr) := by
  subst hK; exact u.de hr ha hk hg hdb he hpl
theorem UseM.deK {pl : Sem Bool} (u : UseM X.prog X.w X.K X.mg X.base C m k ms g) (hr : Room j X.A) (ho : DE X o ta Wa) (ha : DA X ms (e :: es) t Wr) (hk : k ≤ j := by decide)
    (hst : starEach (e :: es) X.env = (false, eval e X.env) :: starEach es X.env := by rfl) (hpl : (backTo pos (starEach es X.env)).any (·.1) = false := by rfl)
    (ht : eval (.Call (.Attribute o m apos) (e :: es) [] pos) X.env = (do
      let ov ← eval o X.env
      standAt apos.atName
      let (f, first) ← holding [ov] (getMethod ov m pl)
      callWith pos f first (backTo pos (starEach (e :: es) X.env)) (backToKw pos (keywordEach [] X.env))) := by rfl) (hK : X.K = K := by rfl) :
    DE X (.Call (.Attribute o m apos) (e :: es) [] pos) (tMeth C m (spD K (true :: ms) g) [] E0 ta t) (wMeth C m g Wa Wr) := by
  subst hK; exact UseM.de (pl := pl) u hr ho ha hk hst hpl ht
theorem UseI.deK (u : UseI X.prog X.w X.K X.mg X.base x C k ms gi) (hr : Room j X.A) (ha : DA X ms (e :: es) t Wr) (hk : k + 1 ≤ j := by decide) (hg : Gl X x := by rfl) (hdb : (x == ("__debug__" : Str)) = false := by decide)
    (he : starEach (e :: es) X.env = (false, eval e X.env) :: starEach es X.env := by rfl) (hpl : (backTo pos (starEach es X.env)).any (·.1) = false := by rfl) (hK : X.K = K := by rfl) : DE X (.Call (.Name x p) (e :: es) [] pos) (tMake C (spI K C ms gi) [] E0 t) (wMake C gi Wr) := by
  subst hK; exact u.de hr ha hk hg hdb he hpl
theorem de_isiK {T : String} (hg : Gl X "isinstance") (hm : X.mg "isinstance" = none) (hgT : Gl X y) (hmT : X.mg y = none) (ha : DW X a ta Wa) (hvT : bootBuiltins y = some (.type T) := by rfl) (hnT : y ≠ "__name__" := by decide) (hdbT : (y == ("__debug__" : Str)) = false := by decide)
    (hs : starEach [a, .Name y p2] X.env = (false, eval a X.env) :: starEach [.Name y p2] X.env := by rfl) (hs2 : starEach [.Name y p2] X.env = (false, eval (.Name y p2) X.env) :: starEach [] X.env := by rfl) (hpl : (backTo pos (starEach [.Name y p2] X.env)).any (·.1) = false := by rfl) (hK : X.K = K := by rfl) :
    DE X (.Call (.Name "isinstance" p) [a, .Name y p2] [] pos) (tCB (rIsi K) (tCons ta (tCons (fun _ H Q => Q (.ty T) H) tNil))) (wIsi T Wa) := by
  subst hK; exact de_isi hg hm hgT hmT ha hvT hnT hdbT hs hs2 hpl
theorem de_fldK (c : Cls X.K C) (n : NoAttr X.K C f) (ha : DE X e ta Wa) (hb : attributeBase e f X.env (eval e X.env) = eval e X.env := by rfl) (hK : X.K = K := by rfl) : DE X (.Attribute e f pos) (tFld K ta f) (wFldC C f Wa) := by
  subst hK; exact de_fld c n ha hb
theorem de_conK {v : V} {u : Value} {d0 : D} (c : Cls X.K C) (k : Con X.K C f v u) (hr : ∀ B, Rep X.K B v d0) (ha : DE X e ta Wa) (hb : attributeBase e f X.env (eval e X.env) = eval e X.env := by rfl) (hK : X.K = K := by rfl) : DE X (.Attribute e f pos) (tCon K ta f) (wCon C f d0 Wa) := by
  subst hK; exact de_con c k hr ha hb
theorem op_catAK (hK : X.K = K := by rfl) : OpR X (binaryOp .Add) (rCatA K) := by subst hK; exact op_catA
theorem op_inK (hK : X.K = K := by rfl) : OpR X (compareOp .In) (rIn K false) := by subst hK; exact op_in_seq
theorem op_notInK (hK : X.K = K := by rfl) : OpR X (compareOp .NotIn) (rIn K true) := by subst hK; exact op_notIn_seq
theorem op_eqDK (hu : X.A.units + 64 < cLine) (hK : X.K = K := by rfl) : OpR X (compareOp .Eq) (rEqD K) := by subst hK; exact op_eqD hu
theorem op_neDK (hu : X.A.units + 64 < cLine) (hK : X.K = K := by rfl) : OpR X (compareOp .NotEq) (rNeD K) := by subst hK; exact op_neD hu
theorem op_ltTK (hu : X.A.units < cLine) (hK : X.K = K := by rfl) : OpR X (compareOp .Lt) (rLtT K) := by subst hK; exact op_ltT hu
theorem call_lenK (hK : X.K = K := by rfl) : CallR X (.builtin "len") (fun xs H Q => ∃ x n, xs = [x] ∧ LenV K x H n ∧ Q (.int n) H) := by subst hK; exact call_len
theorem call_list_ofK (hK : X.K = K := by rfl) : CallR X (.type "list") (fun xs H Q => ∃ p ys, xs = [.ref p] ∧ (SqL K H p ys ∨ SqT K H p ys) ∧ ∀ l, H l = none → Q (.ref l) (upd H l (.lst ys))) := by subst hK; exact call_list_of
theorem call_tuple_ofK (hK : X.K = K := by rfl) : CallR X (.type "tuple") (fun xs H Q => ∃ p ys, xs = [.ref p] ∧ ((SqL K H p ys ∧ ∀ l, H l = none → Q (.ref l) (upd H l (.tup ys))) ∨ (SqT K H p ys ∧ Q (.ref p) H))) := by subst hK; exact call_tuple_of
theorem cr_sortedK (hK : X.K = K := by rfl) : CallR X (.builtin "sorted") (rSorted K) := by subst hK; exact cr_sorted
theorem cr_sumK (hc : X.calm = true) (hK : X.K = K := by rfl) : CallR X (.builtin "sum") (rSum K) := by subst hK; exact cr_sum hc
end
end DL
end
section
set_option Elab.async false
set_option linter.all false
set_option maxRecDepth 100000
/-! DLH: small laws for the reckoning of wishes. -/
namespace DL
open PySem PySem.Spec PyProof.Rows L2
section
variable {d : D} {ds : List D} {a C : Addr} {i : Int} {b : Bool} {x : Str} {ns : List Int} {gs : List (Str × D)} {ts : List (List Key × D)} {ks : List (Key × D)}
theorem rdSl_st : rdSl (.st d) = some d := rfl
theorem rdSl_wk : rdSl (.wk d) = some d := rfl
theorem rdSl_ow : rdSl (.ow a ds) = some (.lst ds) := rfl
theorem rdSl_oT : rdSl (.oT a ts) = some (.dT ts) := rfl
theorem stSl_st : stSl (.st d) = some d := rfl
theorem stSl_wk : stSl (.wk d) = some d := rfl
theorem truD_bl : truD (.bl b) = some b := rfl
theorem truD_int : truD (.int i) = some (i != 0) := rfl
theorem truD_lst : truD (.lst ds) = some (!ds.isEmpty) := rfl
theorem truD_tup : truD (.tup ds) = some (!ds.isEmpty) := rfl
theorem truD_non : truD .non = some false := rfl
theorem lenD_lst : lenD (.lst ds) = some ds.length := rfl
theorem lenD_tup : lenD (.tup ds) = some ds.length := rfl
theorem lenD_scr : lenD (.scr ns) = some ns.length := rfl
theorem walkD_lst : walkD (.lst ds) = some ds := rfl
theorem walkD_tup : walkD (.tup ds) = some ds := rfl
theorem seqD_lst : seqD (.lst ds) = some ds := rfl
theorem seqD_tup : seqD (.tup ds) = some ds := rfl
theorem seqD_scr : seqD (.scr ns) = some (ns.map .int) := rfl
theorem solid_int : solid (.int i) = true := rfl
theorem solid_bl : solid (.bl b) = true := rfl
theorem solid_tup : solid (.tup ds) = true := rfl
theorem solid_ins : solid (.ins C gs) = true := rfl
theorem solid_non : solid .non = true := rfl
theorem solid_str : solid (.str x) = true := rfl
theorem isNon_non : DL.isNon .non = true := rfl
theorem isNon_lst : DL.isNon (.lst ds) = false := rfl
theorem isNon_tup : DL.isNon (.tup ds) = false := rfl
theorem isNon_int : DL.isNon (.int i) = false := rfl
theorem isNon_bl : DL.isNon (.bl b) = false := rfl
theorem frz_ow0 {s : Sl} {r : St'} : frz 0 (s :: r) = frzS s :: r := rfl
theorem frz_succ {n : Nat} {s : Sl} {r : St'} : frz (n + 1) (s :: r) = s :: frz n r := by
  unfold frz
  rw [List.getElem?_cons_succ]
  cases r[n]? <;> rfl
theorem frzS_st : frzS (.st d) = .st d := rfl
theorem frzS_wk : frzS (.wk d) = .wk d := rfl
theorem frzS_ow : frzS (.ow a ds) = .st (.lst ds) := rfl
theorem frzS_oT : frzS (.oT a ts) = .st (.dT ts) := rfl
theorem frzS_no : frzS .no = .no := rfl
end
theorem _root_.L2.Room.u1 {k : Nat} {A : Around} (r : L2.Room k A) : A.units + 1 < cLine := by have := r.un; omega
theorem sz : (16777216 : Nat) = sizeLine := sizeLine_eq.symm
theorem le_size {n : Nat} (h : n ≤ 16777216) : n ≤ sizeLine := by rw [sizeLine_eq]; exact h
theorem lt_size {n : Nat} (h : n < 16777216) : n < sizeLine := by rw [sizeLine_eq]; exact h
theorem atI_of {α : Type} {xs : List α} {i : Int} (h : 0 ≤ i) : atI xs i = xs[i.toNat]? := by
  unfold atI ixN
  rw [if_pos h]
  by_cases h2 : i < xs.length
  · rw [if_pos h2]; rfl
  · rw [if_neg h2]
    exact (List.getElem?_eq_none (by omega)).symm
theorem atI_nat {α : Type} {xs : List α} {k : Nat} : atI xs (k : Int) = xs[k]? := by
  rw [atI_of (by omega)]
  rfl
theorem atI_zero {α : Type} {xs : List α} : atI xs 0 = xs[0]? := atI_of (Int.le_refl 0)
theorem atI_one {α : Type} {xs : List α} : atI xs 1 = xs[1]? := atI_of (by decide)
theorem atI_last {α : Type} {xs : List α} : atI xs (-1) = xs.getLast? := by
  unfold atI ixN
  rw [if_neg (by decide), List.getLast?_eq_getElem?]
  by_cases h : xs.length = 0
  · rw [if_neg (by omega)]
    exact (List.getElem?_eq_none (by omega)).symm
  · rw [if_pos (by omega)]
    show xs[(-1 + (xs.length : Int)).toNat]? = _
    congr 1
    omega
theorem ixN_of {n : Nat} {i : Int} (h : 0 ≤ i) (h2 : i < n) : ixN n i = some i.toNat := by
  unfold ixN
  rw [if_pos h, if_pos h2]
end DL
end
section
set_option Elab.async false
set_option linter.all false
set_option maxRecDepth 100000
/-! DLI: methods and classes of the text. -/
namespace DL
open PySem PySem.Spec PyProof.Rows L2
def clsB : Stmt → List Stmt
  | .ClassDef (body := b) .. => b
  | _ => []
def TxtM (K : PySem.W.Frag) (C : Addr) (m qual : Str) (st : Stmt) (ps : List Str) : Prop :=
  ∃ (f : Addr) (fd : FuncData), FunD K m qual (defArgs st) (defBody st) (defScope st) [] [] f fd ∧ Meth K C m f ∧ Binds K fd ps []
def TxtI (K : PySem.W.Frag) (C : Addr) (qual : Str) (st : Stmt) (ps : List Str) : Prop :=
  ∃ (f : Addr) (fd : FuncData), FunD K "__init__" qual (defArgs st) (defBody st) (defScope st) [] [] f fd ∧ Mk K C f ∧ Binds K fd ps []
section
variable {P : Program} {w : World} {K : PySem.W.Frag} {mg : Str → Option Value} {base : Heap} {C : Addr} {x m qual : Str} {st : Stmt} {N ps : List Str} {k : Nat} {ms : List Bool} {g : GD} {gi : GI}
theorem TxtM.use (T : TxtM K C m qual st ps) (c : Cls K C) (S : FnScope N ps (defScope st)) (hl : ps.length = ms.length + 1)
    (h : ∀ (f : Addr) (cdv : Value) (A : Around) (outer : List PySem.Env) (s : Shared) (H : Hp) (E : XK), Room k (A.deeper (envOfC qual (defScope st) s.heap.objs.size f cdv)) → ∃ t W, DSs (cxOf CX0 P w K mg base N qual (defScope st) f cdv A outer s H E).nox (defBody st) t W ∧
      ∀ ds Q, ds.length = ms.length + 1 → g ds Q → W { nx := fun _ => Q .non, rt := Q } (startD N.length (true :: ms) ds)) : UseM P w K mg base C m (k + 1) ms g := by
  obtain ⟨f, fd, F, hm, hb⟩ := T
  exact ⟨f, fd, ps, c, hm, hb, okD F S (ms := true :: ms) hl (h f)⟩
theorem TxtI.use (T : TxtI K C qual st ps) (hx : mg x = some (.ref C)) (S : FnScope N ps (defScope st)) (hl : ps.length = ms.length + 1)
    (h : ∀ (f : Addr) (cdv : Value) (A : Around) (outer : List PySem.Env) (s : Shared) (H : Hp) (E : XK), Room k (A.deeper (envOfC qual (defScope st) s.heap.objs.size f cdv)) → ∃ t W, DSs (cxOf CX0 P w K mg base N qual (defScope st) f cdv A outer s H E).nox (defBody st) t W ∧
      ∀ a ds Q, ds.length = ms.length → gi ds Q → W { nx := fun δ => ∃ gs, δ[0]? = some (.oI a C gs) ∧ Q gs, rt := fun _ => False } (.oI a C [] :: startD (N.length - 1) ms ds)) : UseI P w K mg base x C (k + 1) ms gi := by
  obtain ⟨f, fd, F, hm, hb⟩ := T
  exact ⟨f, fd, ps, hx, hm, hb, okI F S hl (h f)⟩
end
end DL
end
section
set_option Elab.async false
set_option linter.all false
set_option maxRecDepth 100000
/-! DLJ: over data where an exception is handled: for over range, calls. -/
namespace DL
open PySem PySem.Spec PyProof.Rows L2
structure DIpH (X : Cx) (tg it : Expr) (wi : TI) (W : WA) : Prop where
  p : L2H.PIH X tg it wi
  l : LIp X.K wi W
theorem di_rng1H {X : Cx} {tg : Expr} {a : Expr} {ta : TA} {Wr : WA} {ms : List Bool} {p pos : Pos} (hg : Gl X "range") (hm : X.mg "range" = none) (ha : DA X ms [a] ta Wr) (hs : starEach [a] X.env = [(false, eval a X.env)] := by rfl) :
    DIpH X tg (.Call (.Name "range" p) [a] [] pos) (iRng1 ta) (wRng1 Wr) := by
  refine ⟨L2H.pi_range1H hg hm ha.p hs, fun H0 B0 B H σ δ P R e h q => ha.l H0 B0 B H σ δ _ _ e h fun B1 H1 vs ds s r ⟨j, hd, hr, p⟩ => ?_⟩
  subst hd
  have ev : vs = [.int j] := by
    cases r with
    | st r1 r2 => cases r2; cases r1; rfl
    | wk r1 r2 => cases r2; rw [r1.int]
  exact ⟨j, ev, hr.1, hr.2, q B1 H1 _ _ s (iter_rng 0 j.toNat) p⟩
theorem ds_forH {X : Cx} {tg it : Expr} {body : List Stmt} {wi : TI} {Wi : WA} {g : TG} {ts : List Nat} {Wg : WG} {tb : TS} {Wb : WS} {pos : Pos} (hp : PassesOwn (model X.prog X.w) X.A X.env X.xe) (hc : L2H.HotC X) (hi : DIpH X tg it wi Wi) (hg : DG X tg g ts Wg) (hb : DSs X body tb Wb)
    (hs : ∀ x, foldedSetIterable it X.env x = pure x := by intro _; rfl) : DS X (.For tg it body [] pos) (tFor wi g tb) (wFor Wi Wg Wb) := by
  refine ⟨L2H.ps_forH hp hc hi.p hg.p hb.p hs, fun H0 B0 B H σ δ P E e h q1 q2 q3 q4 => hi.l H0 B0 B H σ δ _ _ e h fun B1 H1 J ds s io w => ?_⟩
  refine ⟨fun i m σ' H' => m = ds.length - i ∧ i ≤ ds.length ∧ ∃ B' δ', Same B1 B' ∧ Env X.K H0 B0 B' H' σ' δ' ∧ forW Wg Wb (ds.drop i) P δ', ⟨ds.length, rfl, Nat.zero_le _, B1, δ, Same.refl _, e.mono s, w⟩, ?_⟩
  rintro i m σ' H' ⟨rfl, hil, B', δ', sb, e', w'⟩
  by_cases hlt : i < ds.length
  · refine .inr ⟨io.go i B' H' sb e'.u e'.step.h hlt, fun σ2 H2 => ∃ B2 δ2, Same B1 B2 ∧ Env X.K H0 B0 B2 H2 σ2 δ2 ∧ forW Wg Wb (ds.drop (i + 1)) P δ2, fun σ2 H2 ⟨B2, δ2, n⟩ => ⟨_, by omega, rfl, hlt, B2, δ2, n⟩, fun x H2 hy => ?_⟩
    obtain ⟨B2, d, hd, s2, r⟩ := io.yld i B' H' x H2 sb e'.u e'.step.h hlt hy
    rw [drop_at hd] at w'
    refine hg.l H0 B0 B2 H2 σ' δ' x d _ _ (e'.mono s2) r w' fun σ3 δ3 _ e3 w3 => ?_
    refine hb.l H0 B0 B2 H2 σ3 δ3 _ _ e3 w3 (fun B4 H4 σ4 δ4 sb4 e4 w4 => ⟨B4, δ4, (sb.trans s2.b).trans sb4, e4, w4⟩) q2 (fun B4 H4 σ4 δ4 sb4 e4 w4 => q1 B4 H4 σ4 δ4 (((s.b.trans sb).trans s2.b).trans sb4) e4 w4) (fun B4 H4 σ4 δ4 sb4 e4 w4 => ⟨B4, δ4, (sb.trans s2.b).trans sb4, e4, w4⟩)
  · have ei : i = ds.length := by omega
    subst ei
    rw [List.drop_length] at w'
    exact .inl ⟨io.stop _ B' H' sb e'.u e'.step.h (Nat.le_refl _), q1 B' H' σ' δ' (s.b.trans sb) e' w'⟩
/-- the name x is a def with this promise, called where an exception is handled -/
def UseH (P : Program) (w : World) (K : PySem.W.Frag) (mg : Str → Option Value) (base : Heap) (x : Str) (k : Nat) (ms : List Bool) (g : GD) : Prop :=
  ∃ (f : Addr) (fd : FuncData) (ps : List Str), mg x = some (.ref f) ∧ PySem.W.keepIn K (.ref f) = true ∧ Binds K fd ps [] ∧ L2H.FnH P w K mg base CX0 k f fd ps (spD K ms g)
section
variable {X : Cx} {k j : Nat} {ms : List Bool} {g : GD} {x : Str} {p pos : Pos} {e : Expr} {es : List Expr} {t : TA} {Wr : WA}
theorem UseH.de (u : UseH X.prog X.w X.K X.mg X.base x k ms g) (hr : L2H.RoomH j X.A) (hc : L2H.HotC X) (ha : DA X ms (e :: es) t Wr) (hk : k ≤ j := by decide) (hg : Gl X x := by rfl) (hdb : (x == ("__debug__" : Str)) = false := by decide)
    (he : starEach (e :: es) X.env = (false, eval e X.env) :: starEach es X.env := by rfl) (hpl : (backTo pos (starEach es X.env)).any (·.1) = false := by rfl) : DE X (.Call (.Name x p) (e :: es) [] pos) (tCallS (spD X.K ms g) (fun _ => E0) t) (wCB g Wr) := by
  obtain ⟨f, fd, ps, h1, h2, h3, h4⟩ := u
  refine ⟨L2H.pe_callH h4 (hr.mono hk) hc hg h1 h2 h3 (fun σ pins H s e s' I h => h.elim) ha.p hdb he hpl, fun H0 B0 B H σ δ P Q e h q => ?_⟩
  refine ha.l H0 B0 B H σ δ _ _ e h fun B1 H1 vs ds s r w => ?_
  exact ⟨B1, ds, P, s.u, r, w, fun B2 H2 v d s2 r2 p => q B2 H2 v d (s.trans s2) r2 p⟩
theorem UseH.deK {K : PySem.W.Frag} (u : UseH X.prog X.w X.K X.mg X.base x k ms g) (hr : L2H.RoomH j X.A) (hc : L2H.HotC X) (ha : DA X ms (e :: es) t Wr) (hk : k ≤ j := by decide) (hg : Gl X x := by rfl) (hdb : (x == ("__debug__" : Str)) = false := by decide)
    (he : starEach (e :: es) X.env = (false, eval e X.env) :: starEach es X.env := by rfl) (hpl : (backTo pos (starEach es X.env)).any (·.1) = false := by rfl) (hK : X.K = K := by rfl) : DE X (.Call (.Name x p) (e :: es) [] pos) (tCallS (spD K ms g) (fun _ => E0) t) (wCB g Wr) := by
  subst hK; exact u.de hr hc ha hk hg hdb he hpl
end
section
variable {P : Program} {w : World} {K : PySem.W.Frag} {mg : Str → Option Value} {base : Heap} {x : Str} {st : Stmt} {N ps : List Str} {k : Nat} {ms : List Bool} {g : GD}
theorem TxtF.useH (T : TxtF K mg x st ps) (S : FnScope N ps (defScope st)) (hl : ps.length = ms.length)
    (h : ∀ (f : Addr) (cdv : Value) (A : Around) (outer : List PySem.Env) (s : Shared) (H : Hp) (E : XK) (p : Addr × Obj), L2H.HotC (L2H.cxH CX0 P w K mg base N x (defScope st) f cdv A outer s H E p).nox → L2H.RoomH k (A.deeper (envOfC x (defScope st) s.heap.objs.size f cdv)) →
      ∃ t W, DSs (L2H.cxH CX0 P w K mg base N x (defScope st) f cdv A outer s H E p).nox (defBody st) t W ∧
      ∀ ds Q, ds.length = ms.length → g ds Q → W { nx := fun _ => Q .non, rt := Q } (startD N.length ms ds)) : UseH P w K mg base x (k + 1) ms g := by
  obtain ⟨f, fd, F, hm, hb⟩ := T
  refine ⟨f, fd, ps, hm, F.kp, hb, ?_⟩
  obtain ⟨oc, od, dV, kV, doc, pm, an, cdv, ct, osl, rfl, lk, hcd, _, _⟩ := F.ex
  refine L2H.fn_ofH lk hcd S (fun vs H Q E hs => hs.len.trans hl.symm) fun A outer s H vs Q E p hot hr hs => ?_
  obtain ⟨t, W, hd, hw⟩ := h f cdv A outer s H E p ⟨p, hot, List.mem_singleton.mpr rfl⟩ hr
  obtain ⟨B, ds, R, u, a, hg, q⟩ := hs
  refine ⟨t, hd.p.nox, hd.l H B B H _ _ _ _ (start_env u a) (hw ds R a.len2.symm hg) (fun B' H' σ' δ' sb e p => ?_) (fun B' H' v d s r p => q B' H' v d s r p) (fun _ _ _ _ _ _ z => z.elim) (fun _ _ _ _ _ _ z => z.elim)⟩
  exact q B' H' _ _ e.step .non p
theorem useH_none {x : Str} {st : Stmt} {ps : List Str} {k : Nat} {ms : List Bool} {g : GD} (F : TxtF K mg x st ps) (hl : ps.length = ms.length) (h : ∀ ds Q, ¬ g ds Q) : UseH P w K mg base x k ms g := by
  obtain ⟨f, fd, F, h1, h2⟩ := F
  refine ⟨f, fd, ps, h1, F.kp, h2, ⟨fun vs H Q E hs => hs.len.trans hl.symm, fun A outer s H args us vs Q E p hr hot hpin he hb hv hs => ?_⟩⟩
  obtain ⟨B, ds, R, _, _, hg, _⟩ := hs
  exact absurd hg (h ds R)
end
end DL
end
section
set_option Elab.async false
set_option linter.all false
set_option maxRecDepth 100000
/-! DLK: an int in a tuple of ints; a list turned round. -/
namespace DL
open PySem PySem.Spec PyProof.Rows L2
def wInT (neg : Bool) : D → D → (D → Prop) → Prop := fun a b P => ∃ (i : Int) (ns : List Int), a = .int i ∧ b = .tup (ns.map .int) ∧ P (.bl (if neg then !decide (i ∈ ns) else decide (i ∈ ns)))
theorem lo_inT {K : PySem.W.Frag} {neg : Bool} : LO K (rIn K neg) (wInT neg) := fun B H x y a b P Q u r1 r2 h q => by
  obtain ⟨i, ns, rfl, rfl, p⟩ := h
  obtain ⟨a, rfl, hs⟩ := r2.intsT u
  rw [r1.int]
  refine ⟨a, _, rfl, .inr hs, rfl, flat_ints ns, ?_⟩
  rw [inV_int]
  exact q B H _ _ (Step.refl u) (.bl _) p
theorem Reps.turn {K : PySem.W.Frag} {B : Hp} : ∀ {vs : List V} {ds : List D}, Reps K B vs ds → Reps K B vs.reverse ds.reverse
  | _, _, .nil => .nil
  | _, _, .cons q t => by
    rw [List.reverse_cons, List.reverse_cons]
    exact (Reps.turn t).snoc q
section
variable {X : Cx} {K : PySem.W.Frag} {a : Expr} {ta : TE} {Wa : WE} {p1 p2 p3 pos : Pos} {k : Nat}
theorem df_revL (ha : DW X a ta Wa) : DF X (.Subscript a (.Slice none none (some (.UnaryOp .USub (.Constant (.int 1) k p1) p2)) p3) pos) (tRevL X.K ta) (fun δ P => Wa δ fun d => ∃ ds, d = .lst ds ∧ P ds.reverse) := by
  obtain ⟨pa, la⟩ := ha
  refine ⟨pe_revL pa, fun H0 B0 B H σ δ P Q e h q => la H0 B0 B H σ δ _ _ e h fun B1 H1 x d s r ⟨ds, hd, p⟩ => ?_⟩
  subst hd
  obtain ⟨t, xs, rfl, hb, r⟩ := r.list s.u
  refine ⟨t, xs, rfl, SqL.of hb, fun p' np => ?_⟩
  have s4 := Step.raw (o := .lst xs.reverse) s.u np
  exact q _ _ _ _ _ (s.trans s4) (Same.none s.h np) upd_same (Same.none s.u np) r.turn p
theorem df_revLK (ha : DW X a ta Wa) (hK : X.K = K := by rfl) : DF X (.Subscript a (.Slice none none (some (.UnaryOp .USub (.Constant (.int 1) k p1) p2)) p3) pos) (tRevL K ta) (fun δ P => Wa δ fun d => ∃ ds, d = .lst ds ∧ P ds.reverse) := by
  subst hK; exact df_revL ha
end
end DL
end
section
set_option Elab.async false
set_option linter.all false
set_option maxRecDepth 100000
/-! SN: sets whose members are tuples of any kind of key (the library's own stop at tuples of ints). The table's laws are the library's (L2.TabOk, go_spec, relaid_ok ..). -/
namespace SN
open PySem PySem.Spec PyProof.Rows L2
/-- a kind of members: what a search asks of them -/
structure Mem (P : Program) (w : World) (κ : Type) [DecidableEq κ] extends HeapKind P w κ where
  cls8 : ∀ {A : Around} {E : Value → Shared → Prop} {s : Shared} {k : κ} {b : Addr} {Q : Bool → Shared → Prop}, is s.heap k b → Q false s → wpAny (model P w) A (ofAClassStatement 8 (.ref b)) Q E s
  val8 : ∀ {A : Around} {E : Value → Shared → Prop} {s : Shared} {k : κ} {b : Addr} {Q : Bool → Shared → Prop}, is s.heap k b → Q true s → wpAny (model P w) A (hashByValue 8 (.ref b)) Q E s
  stay : ∀ {h h' : Heap} {k : κ} {b : Addr}, is h k b → (∀ c o, h.get? c = some o → (∀ es ep t, o.data ≠ .set es ep t) → h'.get? c = some o) → is h' k b
section
variable {P : Program} {w : World} {κ : Type} [DecidableEq κ] (m : Mem P w κ) {A : Around} {E : Value → Shared → Prop} {s : Shared}
/-- two members or one: nothing is shown -/
theorem unseen {k : κ} {b : Addr} {Q : Bool → Shared → Prop} (hk : m.is s.heap k b) {ys : List Value} (hy : ∀ y ∈ ys, ∃ j c, y = Value.ref c ∧ m.is s.heap j c) (q : Q false s) : wpAny (model P w) A (searchCouldBeSeen (.ref b) ys) Q E s := by
  unfold searchCouldBeSeen
  refine wpAny_bind (wpAny_forIn_list _ (fun more r s2 => r.1 = none ∧ s2 = s ∧ ∀ y ∈ more, ∃ j c, y = Value.ref c ∧ m.is s.heap j c) _ ?_ ?_ _ _ ⟨rfl, rfl, hy⟩)
  · rintro v more r s2 ⟨_, rfl, all⟩
    obtain ⟨j, c, rfl, hc⟩ := all v List.mem_cons_self
    have all2 : ∀ y ∈ more, ∃ j c, y = Value.ref c ∧ m.is s2.heap j c := fun y h => all y (List.mem_cons_of_mem _ h)
    dsimp only
    by_cases same : (b == c || (carriedByValue (.ref b) && carriedByValue (.ref c))) = true
    · exact wp_if_pos same (wpAny_pure ⟨rfl, rfl, all2⟩)
    · refine wp_if_neg same (wpAny_bind (m.quiet hk ?_))
      simp only [Bool.not_true, Bool.false_eq_true, if_false]
      refine wpAny_bind (m.quiet hc ?_); simp only [Bool.not_true, Bool.false_eq_true, if_false]
      refine wpAny_bind (m.cls8 hk ?_); simp only [Bool.false_eq_true, if_false]
      refine wpAny_bind (m.cls8 hc ?_); simp only [Bool.false_eq_true, if_false]
      exact wpAny_pure ⟨rfl, rfl, all2⟩
  · rintro ⟨r1, r2⟩ s2 ⟨hr, rfl, _⟩
    simp only at hr
    subst hr
    exact wpAny_pure q
/-- a member's line in the table -/
def line (L : List (Addr × κ)) : List (Int × Value) := L.map fun p => (m.hash p.2, Value.ref p.1)
structure Hs (h : Heap) (a : Addr) (L : List (Addr × κ)) (es : Array (Int × Value)) (ep : Nat) (t : SetTable) : Prop where
  ob : ∃ o, h.get? a = some o ∧ o.ExactSet ∧ o.data = .set es ep t
  ln : es.toList = line m L
  tab : TabOk t (L.map fun p => m.hash p.2)
  nd : (L.map (·.2)).Nodup
  mem : ∀ p ∈ L, m.is h p.2 p.1
  plain : t.plain = true
  led : w.params.followText "set-order" = true ∨ t.led = true
  room : L.length * 5 < t.mask * 3
  few : L.length < 64
variable {m} {a : Addr} {L : List (Addr × κ)} {es : Array (Int × Value)} {ep : Nat} {t : SetTable}
theorem line_len (L : List (Addr × κ)) {es : Array (Int × Value)} (h : es.toList = line m L) : es.size = L.length := by
  have := congrArg List.length h
  rwa [Array.length_toList, line, List.length_map] at this
theorem line_at {L : List (Addr × κ)} {es : Array (Int × Value)} (h : es.toList = line m L) {i : Nat} {p : Addr × κ} (hp : L[i]? = some p) : es[i]? = some (m.hash p.2, Value.ref p.1) := by
  rw [← Array.getElem?_toList, h, line, List.getElem?_map, hp]
  rfl
theorem Hs.fit (R : Hs m s.heap a L es ep t) : t.fits es.size = true := by
  have h1 := R.tab.sz
  rw [List.length_map] at h1
  have h2 := line_len L R.ln
  have h3 := R.room
  unfold SetTable.fits SetTable.fill
  rw [R.tab.dm, Bool.and_eq_true, beq_iff_eq, decide_eq_true_eq]
  show t.place.size = es.size ∧ t.place.size + 0 ≤ t.mask
  omega
theorem Hs.stands (R : Hs m s.heap a L es ep t) : ¬ t.gaveWay = true := by
  unfold SetTable.gaveWay
  rw [mask_odd R.tab.mok]
  decide
abbrev begin_ (t : SetTable) (h : Int) : SetTable.Probe := runAt t.mask (SetTable.bits h % (t.mask + 1)) (SetTable.bits h)
theorem no_dummy (t : SetTable) : ∀ (n : Nat) (p : SetTable.Probe), p.dummy = none → (nth t.mask p n).dummy = none
  | 0, _, h => h
  | n + 1, p, h => no_dummy t n (adv t.mask p) (by unfold adv; split <;> exact h)
/-- from the c-th step on; K: the first empty slot of the way -/
theorem seek (R : Hs m s.heap a L es ep t) {x : Addr} {k : κ} (hx : m.is s.heap k x) (hu : m.room A) {K : Nat} (hKf : K < 10 * SetTable.turns t.mask) (hK : way t.mask (m.hash k) K ∉ t.place.toList) (hKb : ∀ c, c < K → way t.mask (m.hash k) c ∈ t.place.toList)
    {Q : SetFound → Shared → Prop} (hin : k ∈ L.map (·.2) → Q (.there none) s) (hout : k ∉ L.map (·.2) → Q (.free (way t.mask (m.hash k) K) false) s) :
    ∀ (f c : Nat) (st : Option SetTable.Probe), st.getD (t.probeStart (m.hash k)) = nth t.mask (begin_ t (m.hash k)) c → c ≤ K → K - c < f →
      (∀ (i : Nat) p, L[i]? = some p → p.2 = k → ∃ d, c ≤ d ∧ d < K ∧ t.place.toList[i]? = some (way t.mask (m.hash k) d)) → wpAny (model P w) A (setSearchFrom a (.ref x) (m.hash k) true f st) Q E s
  | 0, _, _, _, _, hf, _ => absurd hf (Nat.not_lt_zero _)
  | f + 1, c, st, hst, hc, hf, hre => by
    obtain ⟨o, ho, hex, hd⟩ := R.ob
    rw [setSearchFrom_succ]
    refine wpAny_bind (wpAny_setState_of ho hd R.fit ?_)
    dsimp only
    refine wp_if_neg R.stands ?_
    try refine wpAny_bind (wpAny_pure ?_)
    have mv : ∀ q, nth t.mask (nth t.mask (begin_ t (m.hash k)) c) q = nth t.mask (begin_ t (m.hash k)) (c + q) := fun q => (nth_add t.mask c _ q).symm
    have mj : ∀ q, (nth t.mask (nth t.mask (begin_ t (m.hash k)) c) q).j = way t.mask (m.hash k) (c + q) := fun q => congrArg SetTable.Probe.j (mv q)
    have hashAt : ∀ (i : Nat) p, L[i]? = some p → (fun i => (es[i]?.map (·.1)).getD 0) i = m.hash p.2 := fun i p hp => by
      show (es[i]?.map (·.1)).getD 0 = _
      rw [line_at R.ln hp]
      rfl
    rcases go_spec t R.tab.ris R.tab.dm (fun i => (es[i]?.map (·.1)).getD 0) (m.hash k) (10 * SetTable.turns t.mask) (K - c) _ (no_dummy t c _ rfl) (by omega) (fun q hq => by rw [mj]; exact hKb (c + q) (by omega)) (by rw [mj, show c + (K - c) = K by omega]; exact hK)
      with ⟨q, i, hq, hi, hh, hno, hpr⟩ | ⟨hno, hpr⟩
    · have hpr2 : t.probe (fun i => (es[i]?.map (·.1)).getD 0) (m.hash k) (st.getD (t.probeStart (m.hash k))) = some (.candidate (way t.mask (m.hash k) (c + q)) i (nth t.mask (begin_ t (m.hash k)) (c + (q + 1)))) := by
        rw [hst, ← mj, ← mv]
        exact hpr
      rw [hpr2]
      dsimp only
      rw [mj] at hi
      have hil : i < L.length := by
        have h1 : i < t.place.toList.length := (List.getElem?_eq_some_iff.mp hi).1
        have h2 := R.tab.sz
        rw [List.length_map] at h2
        rw [Array.length_toList] at h1
        omega
      obtain ⟨p, hp⟩ : ∃ p, L[i]? = some p := ⟨_, List.getElem?_eq_getElem hil⟩
      have hmem : p ∈ L := List.mem_of_getElem? hp
      have hpt := R.mem p hmem
      have rest : wpAny (model P w) A (searchRest a (.ref x) (m.hash k) true f es t (way t.mask (m.hash k) (c + q)) i (nth t.mask (begin_ t (m.hash k)) (c + (q + 1)))) Q E s := by
        unfold searchRest
        rw [line_at R.ln hp]
        dsimp only
        refine wpAny_bind (wpAny_holding (m.eqBool hu hpt hx (wpAny_bind (wpAny_setState_of ho hd R.fit ?_))))
        dsimp only
        by_cases hkk : p.2 = k
        · exact wp_if_pos (by simp [hkk]) (wpAny_pure (hin (List.mem_map.mpr ⟨p, hmem, hkk⟩)))
        · refine wp_if_neg (by simp [hkk]) ?_
          try refine wpAny_bind (wpAny_pure ?_)
          rw [sameMem]
          dsimp only
          have hsl : t.slot (way t.mask (m.hash k) (c + q)) = .live i := slot_live R.tab.ris hi
          simp only [if_true, hsl, line_at R.ln hp]
          refine wpAny_bind (wpAny_isSame_ref_self (wpAny_bind (wpAny_pure ?_)))
          simp only [if_true]
          refine wp_if_neg (by simp [hkk]) (seek R hx hu hKf hK hKb hin hout f (c + (q + 1)) _ rfl (by omega) (by omega) fun i0 p0 h0 hk0 => ?_)
          obtain ⟨d, a1, a2, a3⟩ := hre i0 p0 h0 hk0
          refine ⟨d, ?_, a2, a3⟩
          rcases Nat.lt_trichotomy d (c + q) with z | z | z
          · exact absurd ((hashAt i0 p0 h0).trans (congrArg m.hash hk0)) (hno (d - c) i0 (by omega) (by rw [mj, show c + (d - c) = d by omega]; exact a3))
          · rw [z] at a3
            have s0 := slot_live R.tab.ris a3
            rw [hsl] at s0
            injection s0 with s0
            rw [← s0, hp] at h0
            exact absurd ((congrArg Prod.snd (Option.some.inj h0)).trans hk0) hkk
          · omega
      by_cases hl : t.led = true
      · refine wp_if_neg (by simp [hl]) ?_
        try refine wpAny_bind (wpAny_pure ?_)
        exact rest
      · refine wp_if_pos (by simp [hl]) (wpAny_bind (unseen m hx (fun y hy => ?_) ?_))
        · obtain ⟨e, he, ee⟩ := List.mem_map.mp hy
          have he1 : e ∈ es ∧ e.1 = m.hash k := by simpa using he
          have he2 : e ∈ es.toList := by simpa using he1.1
          rw [R.ln] at he2
          obtain ⟨p2, hp2, e2⟩ := List.mem_map.mp he2
          exact ⟨p2.2, p2.1, by rw [← ee, ← e2], R.mem p2 hp2⟩
        · refine wp_if_neg (by decide) ?_
          try refine wpAny_bind (wpAny_pure ?_)
          exact rest
    · have hpr2 : t.probe (fun i => (es[i]?.map (·.1)).getD 0) (m.hash k) (st.getD (t.probeStart (m.hash k))) = some (.empty (way t.mask (m.hash k) K) none) := by
        have e2 : way t.mask (m.hash k) K = (nth t.mask (nth t.mask (begin_ t (m.hash k)) c) (K - c)).j := by rw [mj, show c + (K - c) = K by omega]
        rw [hst, e2]
        exact hpr
      rw [hpr2]
      dsimp only
      refine wpAny_pure (hout fun hm => ?_)
      obtain ⟨p0, h0, hk0⟩ := List.mem_map.mp hm
      obtain ⟨i0, hi0, e0⟩ := List.getElem_of_mem h0
      have h00 : L[i0]? = some p0 := by rw [List.getElem?_eq_getElem hi0, e0]
      obtain ⟨d, a1, a2, a3⟩ := hre i0 p0 h00 hk0
      exact hno (d - c) i0 (by omega) (by rw [mj, show c + (d - c) = d by omega]; exact a3) ((hashAt i0 p0 h00).trans (congrArg m.hash hk0))
theorem seek0 (R : Hs m s.heap a L es ep t) {x : Addr} {k : κ} (hx : m.is s.heap k x) (hu : m.room A) {Q : SetFound → Shared → Prop} (hin : k ∈ L.map (·.2) → Q (.there none) s)
    (hout : ∀ K, k ∉ L.map (·.2) → way t.mask (m.hash k) K ∉ t.place.toList → (∀ c, c < K → way t.mask (m.hash k) c ∈ t.place.toList) → Q (.free (way t.mask (m.hash k) K) false) s) : wpAny (model P w) A (setSearch a (.ref x) (m.hash k) true) Q E s := by
  have hroom := R.room
  obtain ⟨K, hKf, hK, hKb⟩ := R.tab.first (by rw [List.length_map]; omega) (m.hash k)
  have big : 10 * SetTable.turns t.mask ≤ 1420 := by
    unfold SetTable.turns
    rcases R.tab.mok with e | e | e <;> omega
  unfold setSearch
  refine seek R hx hu hKf hK hKb hin (fun hn => hout K hn hK hKb) 100000 0 none rfl (Nat.zero_le _) (by omega) fun i p hp hk => ?_
  have hi : (L.map fun p => m.hash p.2)[i]? = some (m.hash k) := by rw [List.getElem?_map, hp, ← hk]; rfl
  have hil : i < t.place.toList.length := by
    have h1 : i < L.length := (List.getElem?_eq_some_iff.mp hp).1
    have h2 := R.tab.sz
    rw [List.length_map] at h2
    rw [Array.length_toList]
    omega
  obtain ⟨c, hc, e⟩ := R.tab.before hK hi (List.getElem?_eq_getElem hil)
  exact ⟨c, Nat.zero_le _, hc, by rw [List.getElem?_eq_getElem hil, e]⟩
theorem mem_same {h h' : Heap} {k : κ} {b : Addr} {o : Obj} (hb : m.is h k b) (ho : h.get? a = some o) (hd : o.data = .set es ep t) (hs : Heap.SameBut a h h') : m.is h' k b :=
  m.stay hb fun c u hc hn => (hs.2 c fun z => by
    rw [z, ho] at hc
    exact hn es ep t (Option.some.inj hc ▸ hd)).trans hc
theorem reorder (L : List (Addr × κ)) (es : Array (Int × Value)) (order : Array Nat) (hr : es.toList = line m L) (hp : order.toList.Perm (List.range L.length)) :
    ∃ L2, (order.filterMap (es[·]?)).toList = line m L2 ∧ L2.Perm L ∧ (L2.map fun p => m.hash p.2) = order.toList.map fun i => (es.map (·.1)).getD i 0 := by
  have hsz := line_len L hr
  have key : ∀ l : List Nat, (∀ i ∈ l, i < L.length) → l.filterMap (fun i => es[i]?) = line m (l.filterMap fun i => L[i]?) ∧ ((l.filterMap fun i => L[i]?).map fun p => m.hash p.2) = l.map fun i => (es.map (·.1)).getD i 0 := by
    intro l
    induction l with
    | nil => intro _; exact ⟨rfl, rfl⟩
    | cons i l ih =>
      intro hl
      have hi := hl i List.mem_cons_self
      obtain ⟨e1, e2⟩ := ih fun j hj => hl j (List.mem_cons_of_mem _ hj)
      have en := line_at hr (List.getElem?_eq_getElem hi)
      rw [List.filterMap_cons_some en, List.filterMap_cons_some (List.getElem?_eq_getElem hi), e1]
      refine ⟨rfl, ?_⟩
      rw [List.map_cons, List.map_cons, e2]
      have e5 : (es.map (·.1))[i]? = some (m.hash (L[i]).2) := by rw [Array.getElem?_map, en]; rfl
      have e4 : (es.map (·.1)).getD i 0 = m.hash (L[i]).2 := by simp [Array.getD_eq_getD_getElem?, e5]
      rw [e4]
  obtain ⟨e1, e2⟩ := key order.toList fun i hi => List.mem_range.mp (hp.mem_iff.mp hi)
  refine ⟨_, by first | (rw [Array.toList_filterMap]; exact e1) | simpa using e1, ?_, e2⟩
  have all : ∀ n, n ≤ L.length → (List.range n).filterMap (fun i => L[i]?) = L.take n := by
    intro n
    induction n with
    | zero => intro _; rfl
    | succ n ih =>
      intro hn
      have hlt : n < L.length := hn
      rw [List.range_succ, List.filterMap_append, ih (Nat.le_of_lt hlt), List.take_succ, List.getElem?_eq_getElem hlt, List.filterMap_cons_some (List.getElem?_eq_getElem hlt)]
      rfl
  have h1 := hp.filterMap fun i => L[i]?
  rw [all L.length (Nat.le_refl _), List.take_length] at h1
  exact h1
theorem relay {o : Obj} (ho : s.heap.get? a = some o) (hex : o.ExactSet) (hd : o.data = .set es ep t) (hr : es.toList = line m L) (hsz : t.place.size = es.size) (hdm : t.dummies = #[]) (hfl : es.size ≤ t.mask) (nd : (L.map (·.2)).Nodup) (mem : ∀ p ∈ L, m.is s.heap p.2 p.1)
    (pl : t.plain = true) (ld : w.params.followText "set-order" = true ∨ t.led = true) (few : L.length < 64) {want M : Nat} (hw : SetTable.sizeAbove want - 1 = M) (hM : MaskOk M) (hw2 : SetTable.sizeAbove want ≤ 128) (hn : L.length * 5 < M * 3) {Q : Unit → Shared → Prop}
    (k : ∀ h2 L2 es2 ep2 t2, Heap.SameBut a s.heap h2 → Hs m h2 a L2 es2 ep2 t2 → L2.Perm L → Q () { s with heap := h2 }) : wpAny (model P w) A (setRelay a want) Q E s := by
  have hsl := line_len L hr
  have hfits : t.fits es.size = true := by
    unfold SetTable.fits SetTable.fill
    rw [hdm, Bool.and_eq_true, beq_iff_eq, decide_eq_true_eq]
    show t.place.size = es.size ∧ t.place.size + 0 ≤ t.mask
    omega
  obtain ⟨t2, order, e, hp, T, em, el, epl, ed⟩ := relaid_ok t (hs := es.map (·.1)) (wanted := want) hw hM (by rw [Array.size_map, hsl]; omega)
  rw [Array.size_map, hsl] at hp
  obtain ⟨L2, r1, r2, r3⟩ := reorder L es order hr hp
  rw [← r3] at T
  have hs2 : (order.filterMap (es[·]?)).size = es.size := by rw [line_len L2 r1, r2.length_eq, hsl]
  rw [setRelay_eq]
  refine wpAny_bind (wpAny_setState_of ho hd hfits ?_)
  dsimp only
  refine wp_if_neg (by rw [sizeLine_eq]; omega) ?_
  try refine wpAny_bind (wpAny_pure ?_)
  rw [e]
  dsimp only
  refine wpAny_bind (wp_if_neg (by rw [hs2]; simp) ?_)
  try refine wpAny_bind (wpAny_pure ?_)
  refine wpAny_pure ?_
  dsimp only
  refine wpAny_storeSet_of ho hd ?_ (by rw [hs2, hsl, sizeLine_eq]; omega)
  have sb : Heap.SameBut a s.heap (s.heap.update a (Obj.putSet (order.filterMap (es[·]?)) t2)) := Heap.SameBut.update ..
  refine k _ L2 (order.filterMap (es[·]?)) (ep + 1) t2 sb ⟨⟨_, store_at ho hd, ⟨hex.1, hex.2.1, hex.2.2⟩, rfl⟩, r1, T, (r2.map (·.2)).nodup_iff.mpr nd, fun p hpm => mem_same (mem p (r2.mem_iff.mp hpm)) ho hd sb, by rw [epl]; exact pl, by rw [el]; exact ld, ?_, by rw [r2.length_eq]; exact few⟩ r2
  rw [r2.length_eq, em]
  exact hn
theorem line_put (L : List (Addr × κ)) (p : Nat) (x : Addr) (k : κ) : line m (L.take p ++ (x, k) :: L.drop p) = (line m L).take p ++ (m.hash k, Value.ref x) :: (line m L).drop p := by
  unfold line
  rw [List.map_append, List.map_cons, List.map_take, List.map_drop]
theorem put_in (R : Hs m s.heap a L es ep t) {x : Addr} {k : κ} (hx : m.is s.heap k x) (hu : m.room A) (hfew : L.length + 1 < 64) {Q : Bool → Shared → Prop}
    (q : ∀ b h2 L2 es2 ep2 t2, Heap.SameBut a s.heap h2 → Hs m h2 a L2 es2 ep2 t2 → (k ∈ L.map (·.2) → L2 = L) → (k ∉ L.map (·.2) → L2.Perm ((x, k) :: L)) → Q b { s with heap := h2 }) : wpAny (model P w) A (setAddHashed a (.ref x) (m.hash k)) Q E s := by
  obtain ⟨o, ho, hex, hd⟩ := R.ob
  have hsl := line_len L R.ln
  have hroom := R.room
  unfold setAddHashed
  refine wpAny_holding ?_
  rw [show (100000 : Nat) = 99999 + 1 from rfl, setAddHashedIn_succ]
  refine wpAny_bind (wpAny_setState_of ho hd R.fit ?_)
  dsimp only
  refine wp_if_neg (by simp [byScan, Value.scannable]) ?_
  try refine wpAny_bind (wpAny_pure ?_)
  refine wpAny_bind (seek0 R hx hu (fun hm => ?_) fun K hm hK hb => ?_)
  · dsimp only
    exact wpAny_pure (q false s.heap L es ep t (Heap.SameBut.refl a s.heap) R (fun _ => rfl) fun z => absurd hm z)
  · dsimp only
    refine wpAny_bind (wpAny_setState_of ho hd R.fit ?_)
    dsimp only
    obtain ⟨q1, q2, q3, q4, q5, q6, q7, q8, q9⟩ := R.tab.put hK hb
    have hp1 : (t.put (way t.mask (m.hash k) K)).1.plain = true := by rw [q6]; exact R.plain
    generalize hpt : t.put (way t.mask (m.hash k) K) = pt at q1 q3 q4 q5 q6 q7 q8 q9 hp1 ⊢
    obtain ⟨t1, p⟩ := pt
    dsimp only at q1 q3 q4 q5 q6 q7 q8 q9 hp1 ⊢
    subst q1
    first
      | (refine wpAny_bind ?_; refine wp_if_pos hp1 ?_; refine m.val8 hx ?_)
      | refine wp_if_pos hp1 (wpAny_bind (m.val8 hx ?_))
    simp only [if_true]
    have hin : (SetTable.insertAt es (SetTable.below t.place (way t.mask (m.hash k) K)) (m.hash k, Value.ref x)).toList = line m (L.take (SetTable.below t.place (way t.mask (m.hash k) K)) ++ (x, k) :: L.drop (SetTable.below t.place (way t.mask (m.hash k) K))) := by
      rw [SetTable.toList_insertAt, line_put, R.ln]
    generalize SetTable.below t.place (way t.mask (m.hash k) K) = p at q2 q3 hin ⊢
    have pm := put_perm L p (x, k)
    have hlen : (L.take p ++ (x, k) :: L.drop p).length = L.length + 1 := pm.length_eq
    have hhs : (L.take p ++ (x, k) :: L.drop p).map (fun p => m.hash p.2) = (L.map fun p => m.hash p.2).take p ++ m.hash k :: (L.map fun p => m.hash p.2).drop p := by
      rw [List.map_append, List.map_cons, List.map_take, List.map_drop]
    rw [← hhs] at q3
    have nd1 : ((L.take p ++ (x, k) :: L.drop p).map (·.2)).Nodup := by
      refine (pm.map (·.2)).nodup_iff.mpr ?_
      rw [List.map_cons]
      exact List.nodup_cons.mpr ⟨hm, R.nd⟩
    have hes := line_len _ hin
    rw [hlen] at hes
    generalize SetTable.insertAt es p (m.hash k, Value.ref x) = es1 at hin hes ⊢
    generalize L.take p ++ (x, k) :: L.drop p = L1 at pm hlen q3 nd1 hin
    refine wpAny_bind (wpAny_storeSet_of ho hd ?_ (by rw [hes, sizeLine_eq]; omega))
    have sb : Heap.SameBut a s.heap (s.heap.update a (Obj.putSet es1 t1)) := Heap.SameBut.update ..
    have ho1 := store_at (es' := es1) (t' := t1) ho hd
    generalize s.heap.update a (Obj.putSet es1 t1) = h1 at sb ho1 ⊢
    have mem1 : ∀ p ∈ L1, m.is h1 p.2 p.1 := fun p hp => by
      rcases List.mem_cons.mp (pm.mem_iff.mp hp) with e | hp
      · rw [e]; exact mem_same hx ho hd sb
      · exact mem_same (R.mem p hp) ho hd sb
    have ld1 : w.params.followText "set-order" = true ∨ t1.led = true := by rw [q5]; exact R.led
    by_cases hf : t1.tooFull = true
    · first
        | (refine wpAny_bind ?_; refine wp_if_pos (by simp [hf]) ?_)
        | (refine wp_if_pos (by simp [hf]) ?_; refine wpAny_bind ?_)
      have hfull : (L.length + 1) * 5 ≥ t1.mask * 3 := by
        have h := hf
        unfold SetTable.tooFull at h
        rwa [decide_eq_true_eq, q9, List.length_map] at h
      rw [hsl]
      have hsz1 : t1.place.size = es1.size := by
        have h := q3.sz
        rw [List.length_map, hlen] at h
        rw [h, hes]
      have two : (t.mask = 7 ∧ L.length = 4) ∨ (t.mask = 31 ∧ L.length = 18) := by
        rcases R.tab.mok with e | e | e <;> rw [q4, e] at hfull <;> rw [e] at hroom
        · exact .inl ⟨e, by omega⟩
        · exact .inr ⟨e, by omega⟩
        · omega
      have go : ∀ M, SetTable.sizeAbove (SetTable.grown (L.length + 1)) - 1 = M → MaskOk M → SetTable.sizeAbove (SetTable.grown (L.length + 1)) ≤ 128 → (L.length + 1) * 5 < M * 3 →
          wpAny (model P w) A (setRelay a (SetTable.grown (L.length + 1))) (fun _ s' => wpAny (model P w) A (pure true) Q E s') E { s with heap := h1 } := fun M g1 g2 g3 g4 =>
        relay (s := { s with heap := h1 }) ho1 ⟨hex.1, hex.2.1, hex.2.2⟩ rfl hin hsz1 q3.dm (by rw [hes, q4]; rcases two with ⟨e, e2⟩ | ⟨e, e2⟩ <;> omega) nd1 mem1 hp1 ld1 (by rw [hlen]; exact hfew) g1 g2 g3 (by rw [hlen]; exact g4)
          fun h2 L2 es2 ep2 t2 sb2 R2 pm2 => wpAny_pure (q true h2 L2 es2 ep2 t2 (sb.trans sb2) R2 (fun z => absurd z hm) fun _ => pm2.trans pm)
      rcases two with ⟨_, e2⟩ | ⟨_, e2⟩
      · exact go 31 (by rw [e2, size_20]) (.inr (.inl rfl)) (by rw [e2, size_20]; decide) (by omega)
      · exact go 127 (by rw [e2, size_76]) (.inr (.inr rfl)) (by rw [e2, size_76]; decide) (by omega)
    · first
        | refine wp_if_neg (by simp [hf]) ?_
        | (refine wpAny_bind ?_; refine wp_if_neg (by simp [hf]) ?_; refine wpAny_pure ?_)
      refine wpAny_pure (q true h1 L1 es1 (ep + 1) t1 sb ⟨⟨_, ho1, ⟨hex.1, hex.2.1, hex.2.2⟩, rfl⟩, hin, q3, nd1, mem1, hp1, ld1, ?_, by rw [hlen]; exact hfew⟩ (fun z => absurd z hm) fun _ => pm)
      have h := hf
      unfold SetTable.tooFull at h
      rw [decide_eq_true_eq, q9, List.length_map] at h
      rw [hlen]
      omega
end
end SN
end
section
set_option Elab.async false
set_option linter.all false
set_option maxRecDepth 100000
/-! SO: set(xs) of a list of members, sorted(set). -/
namespace SN
open PySem PySem.Spec PyProof.Rows L2
section
variable {P : Program} {w : World} {κ : Type} [DecidableEq κ] {m : Mem P w κ} {A : Around} {E : Value → Shared → Prop} {s : Shared}
/-- what the set has got of the first i items -/
structure Has (ks : List (Addr × κ)) (i : Nat) (L : List (Addr × κ)) : Prop where
  sub : ∀ p ∈ L, p ∈ ks.take i
  all : ∀ p ∈ ks.take i, p.2 ∈ L.map (·.2)
  len : L.length ≤ i
theorem Has.zero (ks : List (Addr × κ)) : Has ks 0 [] := ⟨fun p h => (by cases h), fun p h => (by simp at h), Nat.le_refl _⟩
theorem Has.old {ks L : List (Addr × κ)} {i : Nat} {x : Addr × κ} (g : Has ks i L) (h : ks[i]? = some x) (hm : x.2 ∈ L.map (·.2)) : Has ks (i + 1) L := by
  have et := take_next h
  refine ⟨fun p hp => et ▸ List.mem_append_left _ (g.sub p hp), fun p hp => ?_, Nat.le_succ_of_le g.len⟩
  rw [et] at hp
  rcases List.mem_append.mp hp with z | z
  · exact g.all p z
  · rw [List.mem_singleton.mp z]; exact hm
theorem Has.new {ks L L2 : List (Addr × κ)} {i : Nat} {x : Addr × κ} (g : Has ks i L) (h : ks[i]? = some x) (pm : L2.Perm (x :: L)) : Has ks (i + 1) L2 := by
  have et := take_next h
  refine ⟨fun p hp => ?_, fun p hp => ?_, by rw [pm.length_eq, List.length_cons]; exact Nat.succ_le_succ g.len⟩
  · rw [et]
    rcases List.mem_cons.mp (pm.mem_iff.mp hp) with e | z
    · rw [e]; exact List.mem_append_right _ (List.mem_singleton.mpr rfl)
    · exact List.mem_append_left _ (g.sub p z)
  · rw [(pm.map (·.2)).mem_iff, List.map_cons]
    rw [et] at hp
    rcases List.mem_append.mp hp with z | z
    · exact List.mem_cons_of_mem _ (g.all p z)
    · rw [List.mem_singleton.mp z]; exact List.mem_cons_self
theorem Hs.keep {h h' : Heap} {a : Addr} {L : List (Addr × κ)} {es : Array (Int × Value)} {ep : Nat} {t : SetTable} (R : Hs m h a L es ep t) (ha : ∀ o, h.get? a = some o → h'.get? a = some o) (ht : ∀ p ∈ L, m.is h' p.2 p.1) : Hs m h' a L es ep t := by
  obtain ⟨o, ho, r⟩ := R.ob
  exact ⟨⟨o, ha o ho, r⟩, R.ln, R.tab, R.nd, ht, R.plain, R.led, R.room, R.few⟩
theorem mem_keep {h h' : Heap} {k : κ} {b : Addr} (x : m.is h k b) (hk : ∀ c o, h.get? c = some o → h'.get? c = some o) : m.is h' k b := m.stay x fun c o e _ => hk c o e
theorem hs_fresh {h : Heap} {a : Addr} (ho : h.get? a = some { cls := .type "set", dict := none, data := .set #[] 0 (.fresh 0 0 (!w.params.followText "set-order")) }) : Hs m h a [] #[] 0 (.fresh 0 0 (!w.params.followText "set-order")) := by
  refine ⟨⟨_, ho, ⟨rfl, rfl, rfl⟩, rfl⟩, rfl, ⟨List.Pairwise.nil, rfl, rfl, .inl rfl, fun x hx => (by cases hx), fun i h j hi => (by simp at hi)⟩, List.nodup_nil, fun p hp => (by cases hp), rfl, ?_, (by show 0 * 5 < 7 * 3; decide), (by show 0 < 64; decide)⟩
  show _ ∨ (!w.params.followText "set-order") = true
  cases w.params.followText "set-order"
  · exact .inr rfl
  · exact .inl rfl
/-- set.update's loop -/
theorem loop {I : Addr} {fp wr : List Addr} {G : Array GenState → Array GenState → Prop} {n : Nat} {Pv : Nat → Value → Prop} {St : Nat → Shared → Prop} {R : Result → Shared → Prop} (W : WalksS P w A.in1 I fp wr G n Pv St) (S : Addr) (hSf : S ∉ fp) (ks : List (Addr × κ)) (hn : n = ks.length)
    (hfew : ks.length < 64) (hval : ∀ i v, Pv i v → ∃ p, ks[i]? = some p ∧ v = .ref p.1) (h0 : Heap) (hk : ∀ p ∈ ks, m.is h0 p.2 p.1) (hS0 : h0.get? S = none) (hw0 : ∀ b ∈ wr, h0.get? b = none) (hu : m.room A.in1) :
    ∀ (k i : Nat) (s : Shared), n - i = k → i ≤ n → St i s → (∀ b o, h0.get? b = some o → s.heap.get? b = some o) → (∃ L es ep t, Hs m s.heap S L es ep t ∧ Has ks i L) →
      (∀ s2 L es ep t, Moved (S :: wr) G s s2 → Hs m s2.heap S L es ep t → Has ks n L → (∀ b o, h0.get? b = some o → s2.heap.get? b = some o) → R (.ok (.ret .none)) s2) → codeAny (model P w) A (.builtin "set.update.loop" ⟨[.ref S, .ref I], []⟩) R s := by
  have hSw : S ∉ wr := fun h => hSf (W.sub _ h)
  have hsub : ∀ b ∈ wr, b ∈ S :: wr := fun b hb => List.mem_cons_of_mem _ hb
  have keepM : ∀ {s s2 : Shared}, Moved wr G s s2 → (∀ b o, h0.get? b = some o → s.heap.get? b = some o) → ∀ b o, h0.get? b = some o → s2.heap.get? b = some o := fun hm hkp b o e => hm.heap b o (fun hb => by rw [hw0 b hb] at e; cases e) (hkp b o e)
  have sub : ∀ {L : List (Addr × κ)} {i : Nat}, Has ks i L → ∀ p ∈ L, p ∈ ks := fun g p hp => List.mem_of_mem_take (g.sub p hp)
  intro k
  induction k with
  | zero =>
    intro i s hk' hi hst hkp ⟨L, es, ep, t, hS, g⟩ hR
    have hin : i = n := by omega
    subst hin
    refine codeAny_builtin F.entry_set_update_loop ?_
    rw [Around.under_plainId F.plain_set_update_loop _]
    show wpAny _ A.in1 (pyNext (.ref I) >>= _) _ _ s
    refine wpAny_bind (W.done s _ _ hst fun s2 hm => ?_)
    show wpAny _ A.in1 (ret Value.none) _ _ s2
    have hkp2 := keepM hm hkp
    exact wpAny_pure (hR s2 L es ep t (hm.mono hsub) (hS.keep (fun o e => hm.heap S o hSw e) fun p hp => mem_keep (hk p (sub g p hp)) hkp2) g hkp2)
  | succ k ih =>
    intro i s hk' hi hst hkp ⟨L, es, ep, t, hS, g⟩ hR
    have hlt : i < n := by omega
    refine codeAny_builtin F.entry_set_update_loop ?_
    rw [Around.under_plainId F.plain_set_update_loop _]
    show wpAny _ A.in1 (pyNext (.ref I) >>= _) _ _ s
    refine wpAny_bind (W.item i s _ _ hlt hst fun v s2 hP hst2 hm => ?_)
    obtain ⟨p, hp, rfl⟩ := hval i v hP
    have hkp2 := keepM hm hkp
    have hS2 : Hs m s2.heap S L es ep t := hS.keep (fun o e => hm.heap S o hSw e) fun q hq => mem_keep (hk q (sub g q hq)) hkp2
    have hx : m.is s2.heap p.2 p.1 := mem_keep (hk p (List.mem_of_getElem? hp)) hkp2
    show wpAny _ A.in1 (holding [Value.ref p.1] (setAdd S (.ref p.1)) >>= _) _ _ s2
    refine wpAny_bind (wpAny_holding ?_)
    unfold setAdd
    refine wpAny_holding (wpAny_bind (m.pyHash hu hx ?_))
    refine put_in (s := { s2 with toks := s2.toks + m.draws p.2 }) hS2 hx hu (by have := g.len; omega) fun b h3 L3 es3 ep3 t3 hsb hS3 c1 c2 => ?_
    have g3 : Has ks (i + 1) L3 := by
      rcases Classical.em (p.2 ∈ L.map (·.2)) with c | c
      · rw [c1 c]; exact g.old hp c
      · exact g.new hp (c2 c)
    have hkp3 : ∀ b o, h0.get? b = some o → h3.get? b = some o := fun b o e => (hsb.2 b (fun z => by rw [z, hS0] at e; cases e)).trans (hkp2 b o e)
    refine wpAny_pure ⟨plainId_quiet F.plain_set_update_loop _, ih (i + 1) _ (by omega) hlt (W.frame _ s2 _ _ hst2 (Nat.le_add_right _ _) fun b hb o e => ?_) hkp3 ⟨L3, es3, ep3, t3, hS3, g3⟩ fun s4 L4 es4 ep4 t4 hm4 hS4 g4 hkp4 => ?_⟩
    · rw [hsb.2 b (fun h : b = S => hSf (by rw [← h]; exact hb))]; exact e
    · refine hR s4 L4 es4 ep4 t4 (Moved.trans W.gtrans ((hm.mono hsub).then_heap (Nat.le_add_right _ _) fun b o hb e => ?_) hm4) hS4 g4 hkp4
      rw [hsb.2 b (fun h : b = S => hb (by rw [h]; exact List.mem_cons_self))]; exact e
theorem none_from {h : Heap} {b : Addr} (hb : h.objs.size ≤ b) : h.get? b = none := by
  cases q : h.get? b with
  | none => rfl
  | some o => exact absurd (Nat.lt_of_lt_of_le (Heap.lt_size q) hb) (Nat.lt_irrefl _)
set_option maxHeartbeats 3200000 in
/-- set(xs) -/
theorem call_set {l : Addr} {items : Array Value} (ks : List (Addr × κ)) {Q : Value → Shared → Prop} (hh : A.handled = none) (hl : s.heap.IsList l items) (hit : items.toList = ks.map fun p => Value.ref p.1) (hk : ∀ p ∈ ks, m.is s.heap p.2 p.1) (hfew : ks.length < 64) (hu : m.room A.in1.in1.in1)
    (q : ∀ (h2 : Heap) (tk : Nat) L es ep t, Hs m h2 s.heap.objs.size L es ep t → Has ks ks.length L → (∀ b o, s.heap.get? b = some o → h2.get? b = some o) → Q (.ref s.heap.objs.size) { s with heap := h2, toks := tk }) : wpAny (model P w) A (call (.type "set") [.ref l]) Q E s := by
  have hisz : items.size = ks.length := by
    have q := congrArg List.length hit
    rwa [Array.length_toList, List.length_map] at q
  obtain ⟨c, tl, hmro⟩ := F.called_set.mro
  have hmade := F.called_set.made
  have hsub := F.called_set.sub
  refine wpAny_call (codeAny_of_tree ?_)
  show wpAny _ _ (callAny (.type "set") _) _ _ _
  refine wpAny_pure ⟨Code.quiet_builtin _ (by decide +kernel), codeAny_builtin F.entry_type_call ?_⟩
  rw [Around.under_plain (weight_type_call_type "set" [.ref l] []) rfl]
  have h1 := F.called_set.notType
  have h2 := F.called_set.canCreate
  have hct := F.typeCall_set_1 (.ref l)
  repeat (any_goals (first | assumption | wp_step))
  refine codeAny_mono (code_set_led1 (.ref l) (E := E) (Q₁ := fun obj s₁ => obj = .ref s.heap.objs.size ∧ s₁ = { s with heap := s.heap.push { cls := .type "set", dict := none, data := .set #[] 0 (.fresh 0 0 (!w.params.followText "set-order")) } }) ⟨rfl, rfl⟩) fun r s1 hr => ?_
  cases r with
  | error e => exact hr
  | ok fl =>
    cases fl with
    | ret obj =>
      obtain ⟨rfl, rfl⟩ := hr
      have hS : (s.heap.push { cls := .type "set", dict := none, data := .set #[] 0 (.fresh 0 0 (!w.params.followText "set-order")) }).get? s.heap.objs.size = some { cls := .type "set", dict := none, data := .set #[] 0 (.fresh 0 0 (!w.params.followText "set-order")) } := Heap.get?_push_size _ rfl
      have hT : Shared.TypeIs { s with heap := s.heap.push { cls := .type "set", dict := none, data := .set #[] 0 (.fresh 0 0 (!w.params.followText "set-order")) } } (.ref s.heap.objs.size) "set" := ⟨_, hS, rfl⟩
      have hli := F.called_set.init.lookup
      have hbi := F.called_set.init.bind (.ref s.heap.objs.size)
      repeat (any_goals (first | assumption | wp_step))
      refine codeAny_mono (codeAny_call_builtin (R := wants (fun r s2 => r = .none ∧ ∃ h' tk L es ep t, s2 = { s with heap := h', toks := tk } ∧ Hs m h' s.heap.objs.size L es ep t ∧ Has ks ks.length L ∧ (∀ b o, s.heap.get? b = some o → h'.get? b = some o)) E) F.called_set.init.plain F.entry_set_init (check_set_init_1 hT ?_)) fun r2 s2 hr2 => ?_
      · obtain ⟨ol, hol, hcl, nl, hdl⟩ := hl
        obtain ⟨ocls, odict, odata, oslots⟩ := ol
        simp only at hcl hdl
        subst hcl hdl
        have hol2 : (s.heap.push { cls := .type "set", dict := none, data := .set #[] 0 (.fresh 0 0 (!w.params.followText "set-order")) }).get? l = some { cls := .type "list", dict := odict, data := .seq items nl, slots := oslots } := Heap.get?_push_of_some _ hol
        have hsls := F.sub_list_set
        have hslf := F.sub_list_frozenset
        have hne : (Value.type "list" == Value.type "dict") = false := by decide
        have hl1 : (s.heap.push { cls := .type "set", dict := none, data := .set #[] 0 (.fresh 0 0 (!w.params.followText "set-order")) }).IsList l items := ⟨_, hol2, rfl, nl, rfl⟩
        unfold Builtin.«set.__init__» noKeywords Builtin.Frozenset.updateFrom
        generalize hPI : pyIter = PI
        wp_walk
        subst hPI
        refine wpAny_pyIter_list hl1 (wpAny_bind (wpAny_runValue ?_))
        have hlS : l < s.heap.objs.size := Heap.lt_size hol
        have hh3 : A.in1.in1.in1.handled = none := by simp [hh]
        have hneI : l ≠ (s.heap.push { cls := .type "set", dict := none, data := .set #[] 0 (.fresh 0 0 (!w.params.followText "set-order")) }).objs.size := by
          rw [Heap.size_push]; exact Nat.ne_of_lt (Nat.lt_succ_of_lt hlS)
        have hSf : s.heap.objs.size ∉ [(s.heap.push { cls := .type "set", dict := none, data := .set #[] 0 (.fresh 0 0 (!w.params.followText "set-order")) }).objs.size, l] := by
          rw [Heap.size_push]; simp only [List.mem_cons, List.mem_singleton, List.not_mem_nil, or_false, not_or]
          exact ⟨Nat.ne_of_lt (Nat.lt_succ_self _), Nat.ne_of_gt hlS⟩
        have hval : ∀ (i : Nat) (v : Value), items[i]? = some v → ∃ p, ks[i]? = some p ∧ v = .ref p.1 := fun i v hv => by
          have q : items.toList[i]? = some v := by rw [Array.getElem?_toList]; exact hv
          rw [hit, List.getElem?_map] at q
          cases hq : ks[i]? with
          | none => rw [hq] at q; cases q
          | some p => rw [hq] at q; exact ⟨p, rfl, (Option.some.inj q).symm⟩
        refine loop ((Walks.list hh3 _ l hneI items).toS) s.heap.objs.size hSf ks hisz hfew hval s.heap hk (none_from (Nat.le_refl _)) (fun b hb => none_from (by rw [List.mem_singleton.mp hb, Heap.size_push]; exact Nat.le_succ _)) hu (items.size - 0) 0 _ (by omega) (Nat.zero_le _)
          ⟨⟨_, Heap.get?_push_size _ rfl, rfl, rfl⟩, (hl1.push _)⟩ (fun b o e => Heap.get?_push_of_some _ (Heap.get?_push_of_some _ e)) ?hS0 ?hR
        case hS0 => exact ⟨[], #[], 0, _, hs_fresh (Heap.get?_push_of_some _ hS), Has.zero ks⟩
        case hR =>
          intro s2 L es ep t hm hS2 g2 hkp
          obtain ⟨h3, g3, d3, tk3, os3⟩ := s2
          have eg : g3 = s.gens := hm.gens
          have ed : d3 = s.drawn := hm.drawn
          have eo : os3 = s.os := hm.os
          subst eg ed eo
          show wpAny _ _ _ _ _ _
          refine wpAny_pure ?_
          show wpAny _ _ (ret Value.none) _ _ _
          rw [hisz] at g2
          exact wpAny_pure ⟨rfl, h3, tk3, L, es, ep, t, rfl, hS2, g2, hkp⟩
      · cases r2 with
        | error e => exact hr2
        | ok fl2 =>
          cases fl2 with
          | ret r =>
            obtain ⟨rfl, h3, tk, L, es, ep, t, rfl, hS3, g3, hk3⟩ := hr2
            repeat (any_goals (first | assumption | wp_step))
            exact q _ _ _ _ _ _ hS3 g3 hk3
          | _ => exact hr2.elim
    | _ => exact hr.elim
end
end SN
end
section
set_option Elab.async false
set_option linter.all false
set_option maxRecDepth 100000
/-! SP: members: tuples of ints, None and such tuples. -/
namespace SN
open PySem PySem.Spec PyProof.Rows L2
mutual
/-- no texts -/
def plainK : NestedKey → Bool
  | .none => true
  | .num _ => true
  | .text _ => false
  | .tup ks => plainKs ks
def plainKs : List NestedKey → Bool
  | [] => true
  | k :: ks => plainK k && plainKs ks
end
section
variable {P : Program} {w : World} {E : Value → Shared → Prop}
mutual
theorem cls_k : ∀ (k : NestedKey) (v : Value) (n : Nat) (A : Around) (s : Shared) (Q : Bool → Shared → Prop), NestedIs s.heap k v → k.depth ≤ n → Q false s → wpAny (model P w) A (ofAClassStatement n v) Q E s
  | .none, _, n, A, s, Q, x, _, q => by cases x; cases n <;> exact wpAny_pure q
  | .num i, _, n, A, s, Q, x, _, q => by cases x <;> cases n <;> exact wpAny_pure q
  | .text y, _, n, A, s, Q, x, _, q => by cases x; cases n <;> exact wpAny_pure q
  | .tup ks, _, n, A, s, Q, x, hn, q => by
    cases x with
    | @tup a o vs n0 _ hg hc hd hk =>
      simp only [NestedKey.depth] at hn
      cases n with
      | zero => omega
      | succ n =>
        have hT : s.TypeIs (.ref a) "tuple" := ⟨o, hg, hc⟩
        unfold ofAClassStatement
        refine wpAny_bind (wpAny_typeOf hT ?_)
        dsimp only
        have e : (("tuple" : String) == "tuple") = true := by decide
        simp only [e, if_true, Bool.not_true, Bool.false_eq_true, if_false]
        try refine wpAny_bind (wpAny_pure ?_)
        try simp only [Bool.not_true, Bool.false_eq_true, if_false]
        show wpAny _ _ (seqItems? (.ref a) >>= _) _ _ s
        refine wpAny_bind (wpAny_seqItems hg hd ?_)
        dsimp only
        refine wpAny_bind ?_
        show wpAny _ _ (forIn vs _ _) _ _ s
        rw [← Array.forIn_toList]
        refine wpAny_forIn_list _ (fun more r s2 => r.1 = none ∧ s2 = s ∧ ∀ v ∈ more, v ∈ vs.toList) _ ?_ ?_ _ _ ⟨rfl, rfl, fun v h => h⟩
        · rintro v more r s2 ⟨hr, rfl, all⟩
          refine wpAny_bind (cls_ks ks vs.toList n A s2 _ hk (by omega) v (all v List.mem_cons_self) ?_)
          simp only [Bool.false_eq_true, if_false]
          exact wpAny_pure ⟨rfl, rfl, fun u h => all u (List.mem_cons_of_mem _ h)⟩
        · rintro ⟨r1, r2⟩ s2 ⟨hr, rfl, _⟩
          simp only at hr
          subst hr
          exact wpAny_pure q
theorem cls_ks : ∀ (ks : List NestedKey) (vs : List Value) (n : Nat) (A : Around) (s : Shared) (Q : Bool → Shared → Prop), NestedAll s.heap ks vs → NestedKey.depthAll ks ≤ n → ∀ v ∈ vs, Q false s → wpAny (model P w) A (ofAClassStatement n v) Q E s
  | [], _, n, A, s, Q, x, _, v, hv, q => by cases x; cases hv
  | k :: ks, _, n, A, s, Q, x, hn, v, hv, q => by
    cases x with
    | cons x1 x2 =>
      simp only [NestedKey.depthAll] at hn
      rcases List.mem_cons.mp hv with e | hv
      · rw [e]; exact cls_k k _ n A s Q x1 (by omega) q
      · exact cls_ks ks _ n A s Q x2 (by omega) v hv q
end
mutual
theorem val_k : ∀ (k : NestedKey) (v : Value) (n : Nat) (A : Around) (s : Shared) (Q : Bool → Shared → Prop), NestedIs s.heap k v → k.depth ≤ n → plainK k = true → Q true s → wpAny (model P w) A (hashByValue n v) Q E s
  | .none, _, n, A, s, Q, x, _, _, q => by cases x; cases n <;> exact wpAny_pure q
  | .num i, _, n, A, s, Q, x, _, _, q => by cases x <;> cases n <;> exact wpAny_pure q
  | .text y, _, n, A, s, Q, x, _, p, q => by simp [plainK] at p
  | .tup ks, _, n, A, s, Q, x, hn, p, q => by
    cases x with
    | @tup a o vs n0 _ hg hc hd hk =>
      simp only [NestedKey.depth] at hn
      rw [plainK] at p
      cases n with
      | zero => omega
      | succ n =>
        have hT : s.TypeIs (.ref a) "tuple" := ⟨o, hg, hc⟩
        unfold hashByValue
        refine wpAny_bind (wpAny_specialOf hT F.slot_tuple_hash.lookup ?_)
        show wpAny _ _ (seqItems? (.ref a) >>= _) _ _ s
        refine wpAny_bind (wpAny_seqItems hg hd ?_)
        refine wpAny_bind ?_
        show wpAny _ _ (forIn vs _ _) _ _ s
        rw [← Array.forIn_toList]
        refine wpAny_forIn_list _ (fun more r s2 => r.1 = none ∧ s2 = s ∧ ∀ v ∈ more, v ∈ vs.toList) _ ?_ ?_ _ _ ⟨rfl, rfl, fun v h => h⟩
        · rintro v more r s2 ⟨hr, rfl, all⟩
          refine wpAny_bind (val_ks ks vs.toList n A s2 _ hk (by omega) p v (all v List.mem_cons_self) ?_)
          simp only [Bool.not_true, Bool.false_eq_true, if_false]
          exact wpAny_pure ⟨rfl, rfl, fun u h => all u (List.mem_cons_of_mem _ h)⟩
        · rintro ⟨r1, r2⟩ s2 ⟨hr, rfl, _⟩
          simp only at hr
          subst hr
          exact wpAny_pure q
theorem val_ks : ∀ (ks : List NestedKey) (vs : List Value) (n : Nat) (A : Around) (s : Shared) (Q : Bool → Shared → Prop), NestedAll s.heap ks vs → NestedKey.depthAll ks ≤ n → plainKs ks = true → ∀ v ∈ vs, Q true s → wpAny (model P w) A (hashByValue n v) Q E s
  | [], _, n, A, s, Q, x, _, _, v, hv, q => by cases x; cases hv
  | k :: ks, _, n, A, s, Q, x, hn, p, v, hv, q => by
    cases x with
    | cons x1 x2 =>
      simp only [NestedKey.depthAll] at hn
      rw [plainKs, Bool.and_eq_true] at p
      rcases List.mem_cons.mp hv with e | hv
      · rw [e]; exact val_k k _ n A s Q x1 (by omega) p.1 q
      · exact val_ks ks _ n A s Q x2 (by omega) p.2 v hv q
end
end
mutual
/-- v reads as the key k: ints, None and tuples of such -/
inductive KeyH (h : Heap) : NestedKey → Value → Prop
  | none : KeyH h .none .none
  | int (i t) : KeyH h (.num i) (.int i t)
  | tup {a o vs n ks} : h.get? a = some o → o.cls = .type "tuple" → o.data = .seq vs n → KeyHs h ks vs.toList → KeyH h (.tup ks) (.ref a)
inductive KeyHs (h : Heap) : List NestedKey → List Value → Prop
  | nil : KeyHs h [] []
  | cons {k v ks vs} : KeyH h k v → KeyHs h ks vs → KeyHs h (k :: ks) (v :: vs)
end
mutual
theorem KeyH.nested {h : Heap} : ∀ {k : NestedKey} {v : Value}, KeyH h k v → NestedIs h k v
  | _, _, .none => .none
  | _, _, .int i t => .int i t
  | _, _, .tup a b c d => .tup a b c (KeyHs.nested d)
theorem KeyHs.nested {h : Heap} : ∀ {k : List NestedKey} {v : List Value}, KeyHs h k v → NestedAll h k v
  | _, _, .nil => .nil
  | _, _, .cons a b => .cons (KeyH.nested a) (KeyHs.nested b)
end
mutual
theorem KeyH.reads {h : Heap} : ∀ {k : NestedKey} {v : Value}, KeyH h k v → Reads h v k.data []
  | _, _, .none => .none
  | _, _, .int i t => .int i t
  | _, _, .tup a b c d => .tuple a b c (KeyHs.reads d)
theorem KeyHs.reads {h : Heap} : ∀ {k : List NestedKey} {v : List Value}, KeyHs h k v → ReadsAll h v (NestedKey.datas k) []
  | _, _, .nil => .nil
  | _, _, .cons a b => .cons (as := []) (bs := []) (KeyH.reads a) (KeyHs.reads b)
end
mutual
theorem KeyH.plain {h : Heap} : ∀ {k : NestedKey} {v : Value}, KeyH h k v → plainK k = true
  | _, _, .none => rfl
  | _, _, .int i t => rfl
  | _, _, .tup a b c d => by rw [plainK]; exact KeyHs.plain d
theorem KeyHs.plain {h : Heap} : ∀ {k : List NestedKey} {v : List Value}, KeyHs h k v → plainKs k = true
  | _, _, .nil => rfl
  | _, _, .cons a b => by rw [plainKs, KeyH.plain a, KeyHs.plain b]; rfl
end
mutual
theorem KeyH.stay {h h' : Heap} (hk : ∀ c o, h.get? c = some o → (∀ es ep t, o.data ≠ .set es ep t) → h'.get? c = some o) : ∀ {k : NestedKey} {v : Value}, KeyH h k v → KeyH h' k v
  | _, _, .none => .none
  | _, _, .int i t => .int i t
  | _, _, .tup a b c d => .tup (hk _ _ a fun es ep t z => by rw [c] at z; cases z) b c (KeyHs.stay hk d)
theorem KeyHs.stay {h h' : Heap} (hk : ∀ c o, h.get? c = some o → (∀ es ep t, o.data ≠ .set es ep t) → h'.get? c = some o) : ∀ {k : List NestedKey} {v : List Value}, KeyHs h k v → KeyHs h' k v
  | _, _, .nil => .nil
  | _, _, .cons a b => .cons (KeyH.stay hk a) (KeyHs.stay hk b)
end
mutual
theorem KeyH.stayD {h h' : Heap} (hk : ∀ c o vs n, h.get? c = some o → o.data = .seq vs n → h'.get? c = some o) : ∀ {k : NestedKey} {v : Value}, KeyH h k v → KeyH h' k v
  | _, _, .none => .none
  | _, _, .int i t => .int i t
  | _, _, .tup a b c d => .tup (hk _ _ _ _ a c) b c (KeyHs.stayD hk d)
theorem KeyHs.stayD {h h' : Heap} (hk : ∀ c o vs n, h.get? c = some o → o.data = .seq vs n → h'.get? c = some o) : ∀ {k : List NestedKey} {v : List Value}, KeyHs h k v → KeyHs h' k v
  | _, _, .nil => .nil
  | _, _, .cons a b => .cons (KeyH.stayD hk a) (KeyHs.stayD hk b)
end
def nest (P : Program) (w : World) : Mem P w NestedKey where
  is := fun h k a => KeyH h k (.ref a) ∧ k.depth ≤ 8
  hash := fun k => k.hash w
  draws := fun k => k.draws
  room := fun A => A.units + 8 < cLine
  inj := fun hx hy => NestedIs.inj _ _ _ hx.1.nested hy.1.nested
  keeps := fun {h h' k a d o es ep} x ho hd hs => ⟨x.1.stayD fun c u vs n hc hv => (hs.2 c fun z => by
    rw [z, ho] at hc
    cases hc
    rw [hd] at hv
    cases hv).trans hc, x.2⟩
  pyHash := fun hu hk h => pyHash_key _ _ _ _ _ hk.1.nested (by have := hk.2; omega) h
  eqBool := fun {A E s x y a b Q} hu hx hy h => (nestedKind P w).eqBool hu ⟨hx.1.nested, hx.2⟩ ⟨hy.1.nested, hy.2⟩ h
  quiet := fun {A E s k a Q} hk h => quiet_key k _ 8 s hk.1.nested hk.2 A E Q h
  cls8 := fun {A E s k b Q} hk q => cls_k k _ 8 A s Q hk.1.nested hk.2 q
  val8 := fun {A E s k b Q} hk q => val_k k _ 8 A s Q hk.1.nested hk.2 hk.1.plain q
  stay := fun {h h' k b} x hk => ⟨x.1.stay hk, x.2⟩
end SN
end
section
set_option Elab.async false
set_option linter.all false
set_option maxRecDepth 100000
/-! SQ: sorted(set), the set in the heap, rules over the layer. -/
namespace SN
open PySem PySem.Spec PyProof.Rows L2
abbrev NK := NestedKey
/-- the order of sorted() -/
abbrev kLe (f : NK → PyData) (a b : NK) : Prop := PySem.W.dataLe false f a b = true
section
variable {P : Program} {w : World} {A : Around} {E : Value → Shared → Prop} {s : Shared}
/-- what sorted() asks of the data -/
structure Srt (f : NK → PyData) (ks : List NK) : Prop where
  al : PySem.W.AllAlike (ks.map f)
  so : PySem.W.Sortable (ks.map f)
  dp : ∀ k ∈ ks, (f k).depth ≤ 8
theorem each_ref {R : Value → Addr × NK → Prop} (hR : ∀ p, R (.ref p.1) p) : ∀ L : List (Addr × NK), PySem.W.EachIs R (L.map fun q => Value.ref q.1) L
  | [] => .nil
  | p :: L => .cons (hR p) (each_ref hR L)
theorem each_eq : ∀ {vs : List Value} {L : List (Addr × NK)}, PySem.W.EachIs (fun v p => v = Value.ref p.1) vs L → vs = L.map fun q => Value.ref q.1
  | _, _, .nil => rfl
  | _, _, .cons h t => by rw [List.map_cons, h, each_eq t]
theorem perm_map0 {α β : Type} {f : α → β} {vs ws : List β} (h : vs.Perm ws) : ∀ {L : List α}, ws = L.map f → ∃ L1 : List α, vs = L1.map f ∧ L1.Perm L := by
  induction h with
  | nil => intro L e; exact ⟨L, e, List.Perm.refl _⟩
  | cons x h ih =>
    intro L e
    cases L with
    | nil => cases e
    | cons y L =>
      injection e with e1 e2
      obtain ⟨L1, e3, p⟩ := ih e2
      exact ⟨y :: L1, by rw [List.map_cons, ← e3, e1], p.cons y⟩
  | swap x y l =>
    intro L e
    match L, e with
    | a :: b :: L, e =>
      injection e with e1 e2
      injection e2 with e2 e3
      exact ⟨b :: a :: L, by rw [List.map_cons, List.map_cons, ← e1, ← e2, ← e3], List.Perm.swap a b L⟩
  | trans h1 h2 ih1 ih2 =>
    intro L e
    obtain ⟨L2, e2, p2⟩ := ih2 e
    obtain ⟨L1, e1, p1⟩ := ih1 e2
    exact ⟨L1, e1, p1.trans p2⟩
theorem perm_map {α β : Type} {f : α → β} {L : List α} {vs : List β} (h : vs.Perm (L.map f)) : ∃ L1 : List α, vs = L1.map f ∧ L1.Perm L := perm_map0 h rfl
theorem sortLe_pw {β : Type} (k : β → PyData) (l : List β) : (l.mergeSort (PySem.W.dataLe false k)).Pairwise fun a b => PySem.W.dataLe false k a b = true := by
  have t := PySem.W.sortLe_total (PyProof.Rows.listOrd PyProof.Rows.itemOrd) false fun b => PySem.W.keyToks (k b)
  exact List.pairwise_mergeSort t.trans (fun a b => by have := t.total a b; rw [Bool.or_eq_true]; exact this) l
theorem sorted_hs {a : Addr} {L : List (Addr × NK)} {es : Array (Int × Value)} {ep : Nat} {t : SetTable} {Q : Value → Shared → Prop} (R : Hs (nest P w) s.heap a L es ep t) (hh : A.handled = none) (hu : A.units + 20 < cLine) (x : Srt NestedKey.data (L.map (·.2)))
    (q : ∀ s2 p (out : Array Value) (c : Nat) (L2 : List (Addr × NK)), (∀ b o, s.heap.get? b = some o → s2.heap.get? b = some o) → s2.gens = s.gens → s2.os = s.os → s.heap.objs.size ≤ p → s2.heap.get? p = some (seqObj "list" out c) →
      out.toList = L2.map (fun q => Value.ref q.1) → L2.Perm L → (L2.map (·.2)).Pairwise (kLe NestedKey.data) → Q (.ref p) s2) : wpAny (model P w) A (call (.builtin "sorted") [.ref a]) Q E s := by
  obtain ⟨o, ho, hex, hd⟩ := R.ob
  have hsz := line_len L R.ln
  have hfew := R.few
  refine Calls.call_function_entry kind_sorted plain_sorted entry_sorted (args_sorted1 _) ?_
  unfold Builtin.«sorted»
  refine wpAny_bind (m := checkCount "sorted" 1 1 _) (wpAny_pure ?_)
  refine wpAny_bind (collect_set (A := A.in1) hh ⟨o, ho, hex.1, hd⟩ R.fit (by unfold scanBound; omega) R.tab.ris R.led fun s1 vs k1 hz g1 o1 pm => ?_)
  have hes : es.toList.map (·.2) = L.map fun q => Value.ref q.1 := by
    rw [R.ln, line, List.map_map]
    rfl
  rw [hes] at pm
  obtain ⟨L1, e1, p1⟩ : ∃ L1 : List (Addr × NK), vs = L1.map (fun q => Value.ref q.1) ∧ L1.Perm L := perm_map pm
  subst e1
  have hvl : (L1.map fun q => Value.ref q.1).length < 64 := by rw [pm.length_eq, List.length_map]; exact hfew
  refine wpAny_bind (wpAny_newList ?_ (by rw [sizeLine_eq]; omega))
  have hoL : (s1.heap.push (seqObj "list" (L1.map fun q => Value.ref q.1).toArray 0)).get? s1.heap.objs.size = some (seqObj "list" (L1.map fun q => Value.ref q.1).toArray 0) := Heap.get?_push_size _ rfl
  have rd : ∀ q ∈ L, Reads (s1.heap.push (seqObj "list" (L1.map fun q => Value.ref q.1).toArray 0)) (.ref q.1) q.2.data [] := fun q hq => ((mem_keep (m := nest P w) (R.mem q hq) fun b u e => Heap.get?_push_of_some _ (k1 b u e)).1).reads
  have m1 : ∀ q ∈ L1, q ∈ L := fun q hq => p1.mem_iff.mp hq
  have er : PySem.W.EachIs (fun v (b : Addr × NK) => ∃ as, Reads (s1.heap.push (seqObj "list" (L1.map fun q => Value.ref q.1).toArray 0)) v b.2.data as ∧ s1.heap.objs.size ∉ as) (L1.map fun q => Value.ref q.1) L1 := by
    have go : ∀ l : List (Addr × NK), (∀ q ∈ l, q ∈ L) → PySem.W.EachIs (fun v (b : Addr × NK) => ∃ as, Reads (s1.heap.push (seqObj "list" (L1.map fun q => Value.ref q.1).toArray 0)) v b.2.data as ∧ s1.heap.objs.size ∉ as) (l.map fun q => Value.ref q.1) l := by
      intro l
      induction l with
      | nil => intro _; exact .nil
      | cons p l ih => intro h; exact .cons ⟨[], rd p (h p List.mem_cons_self), fun z => nomatch z⟩ (ih fun q hq => h q (List.mem_cons_of_mem _ hq))
    exact go L1 m1
  have pd : (L1.map fun p : Addr × NK => p.2.data).Perm ((L.map (·.2)).map NestedKey.data) := by
    rw [List.map_map]
    exact p1.map _
  have hal : PySem.W.AllAlike (L1.map fun p : Addr × NK => p.2.data) := fun d hd d2 hd2 => x.al d (pd.mem_iff.mp hd) d2 (pd.mem_iff.mp hd2)
  have hso : PySem.W.Sortable (L1.map fun p : Addr × NK => p.2.data) := x.so.elim (fun h => .inl fun d hd => h d (pd.mem_iff.mp hd)) (fun h => .inr fun d hd => h d (pd.mem_iff.mp hd))
  refine wpAny_bind (wpAny_holding (PySem.W.list_sort_data (β := Addr × NK) (R := fun v p => v = Value.ref p.1) (enc := fun p => p.2.data) (s := { s1 with heap := s1.heap.push (seqObj "list" (L1.map fun q => Value.ref q.1).toArray 0) }) hoL (each_ref (fun _ => rfl) L1) er hal hso
    (by rw [p1.length_eq, sizeLine_eq]; omega) (fun b hb => by have := x.dp b.2 (List.mem_map.mpr ⟨b, m1 b hb, rfl⟩); show A.units + 1 + 1 + _ < _; omega) fun out hl eo => ?_))
  have eo2 := each_eq eo
  obtain ⟨c, hc⟩ := sortedHeap_at (vs := L1.map fun q => Value.ref q.1) (out := out.toArray) hoL
  refine wpAny_pure ⟨_, rfl, q _ s1.heap.objs.size out.toArray c (L1.mergeSort (PySem.W.dataLe false fun p => p.2.data)) (fun b u e => ?_) g1 o1 hz hc (by rw [List.toList_toArray]; exact eo2) ((List.mergeSort_perm _ _).trans p1) ?_⟩
  · have z := k1 b u e
    have hlt := Heap.lt_size z
    show (sortedHeap (s1.heap.push (seqObj "list" (L1.map fun q => Value.ref q.1).toArray 0)) s1.heap.objs.size (L1.map fun q => Value.ref q.1) out.toArray).get? b = some u
    rw [sortedHeap_old (Nat.ne_of_lt hlt) (by rw [size_push']; exact Nat.lt_succ_of_lt hlt)]
    exact Heap.get?_push_of_some _ z
  · exact List.pairwise_map.mpr (sortLe_pw _ L1)
end
/-! ### over the layer -/
mutual
/-- v reads as the key k, off the tracked heap -/
inductive KeyV (K : PySem.W.Frag) (H : Hp) : V → NK → Prop
  | none : KeyV K H .non .none
  | int (i : Int) : KeyV K H (.int i) (.num i)
  | tup {a : Addr} {xs : List V} {ks : List NK} : SqT K H a xs → KeyVs K H xs ks → KeyV K H (.ref a) (.tup ks)
inductive KeyVs (K : PySem.W.Frag) (H : Hp) : List V → List NK → Prop
  | nil : KeyVs K H [] []
  | cons {v : V} {k : NK} {vs : List V} {ks : List NK} : KeyV K H v k → KeyVs K H vs ks → KeyVs K H (v :: vs) (k :: ks)
end
section
variable {X : Cx} {pins : List (Addr × Obj)} {σ : L2.St} {H : Hp} {s : Shared}
mutual
theorem KeyV.h (I : Inv X pins σ H s) : ∀ {v : V} {k : NK} {u : Value}, KeyV X.K H v k → RelV v u → KeyH s.heap k u
  | _, _, _, .none, r => by cases (show _ = Value.none from r); exact .none
  | _, _, _, .int i, r => by obtain ⟨t, rfl⟩ := r; exact .int i t
  | _, _, _, .tup hs hk, r => by
    cases r
    obtain ⟨its, rv, ⟨o, ho, hc, n, hd⟩, _⟩ := I.tuple hs
    exact .tup ho hc hd (by simpa using KeyVs.h I hk rv)
theorem KeyVs.h (I : Inv X pins σ H s) : ∀ {vs : List V} {ks : List NK} {us : List Value}, KeyVs X.K H vs ks → Vals vs us → KeyHs s.heap ks us
  | _, _, _, .nil, r => by cases r; exact .nil
  | _, _, _, .cons h t, r => by
    cases r with
    | cons r rs => exact .cons (KeyV.h I h r) (KeyVs.h I t rs)
end
end
/-- the set at a, without its members -/
structure Set0 (P : Program) (w : World) (h : Heap) (a : Addr) (L : List (Addr × NK)) : Prop where
  ex : ∃ (es : Array (Int × Value)) (ep : Nat) (t : SetTable), (∃ o, h.get? a = some o ∧ o.ExactSet ∧ o.data = .set es ep t) ∧ es.toList = line (nest P w) L ∧ TabOk t (L.map fun p => (nest P w).hash p.2) ∧ (L.map (·.2)).Nodup ∧ t.plain = true ∧
    (w.params.followText "set-order" = true ∨ t.led = true) ∧ L.length * 5 < t.mask * 3 ∧ L.length < 64
def setO (P : Program) (w : World) (a : Addr) (L : List (Addr × NK)) : HO := .ext fun h => Set0 P w h a L
theorem Hs.zero {P : Program} {w : World} {h : Heap} {a : Addr} {L : List (Addr × NK)} {es : Array (Int × Value)} {ep : Nat} {t : SetTable} (R : Hs (nest P w) h a L es ep t) : Set0 P w h a L := ⟨es, ep, t, R.ob, R.ln, R.tab, R.nd, R.plain, R.led, R.room, R.few⟩
theorem Set0.full {P : Program} {w : World} {h : Heap} {a : Addr} {L : List (Addr × NK)} (R : Set0 P w h a L) (ht : ∀ p ∈ L, (nest P w).is h p.2 p.1) : ∃ es ep t, Hs (nest P w) h a L es ep t := by
  obtain ⟨es, ep, t, h1, h2, h3, h4, h5, h6, h7, h8⟩ := R.ex
  exact ⟨es, ep, t, h1, h2, h3, h4, ht, h5, h6, h7, h8⟩
theorem setO_ok {P : Program} {w : World} {H : Hp} {h : Heap} {a : Addr} {L : List (Addr × NK)} (R : Set0 P w h a L) : ObjOk P w H h a (setO P w a L) := by
  have ⟨es, ep, t, ⟨o, ho, r⟩, q⟩ := R.ex
  refine ⟨R, ⟨o, ho⟩, fun h1 h2 p k => ?_⟩
  have ⟨es', ep', t', ⟨o', ho', r'⟩, q'⟩ := Set0.ex p
  exact ⟨es', ep', t', ⟨o', k o' ho', r'⟩, q'⟩
theorem vals_refs : ∀ ks : List (Addr × NK), Vals (ks.map fun p => V.ref p.1) (ks.map fun p => Value.ref p.1)
  | [] => .nil
  | _ :: ks => .cons rfl (vals_refs ks)
theorem refs_vals : ∀ {ks : List (Addr × NK)} {us : List Value}, Vals (ks.map fun p => V.ref p.1) us → us = ks.map fun p => Value.ref p.1
  | [], _, .nil => rfl
  | _ :: _, _, .cons r t => by cases r; rw [refs_vals t]; rfl
section
variable {X : Cx}
/-- set(xs) -/
def rSetN (K : PySem.W.Frag) (P : Program) (w : World) : List V → Hp → VK → Prop := fun xs H Q => ∃ (l : Addr) (ks : List (Addr × NK)), xs = [V.ref l] ∧ SqL K H l (ks.map fun p => V.ref p.1) ∧ (∀ p ∈ ks, KeyV K H (.ref p.1) p.2 ∧ p.2.depth ≤ 8) ∧ ks.length < 64 ∧
  ∀ a L, H a = none → (∀ p ∈ L, p ∈ ks) → (∀ p ∈ ks, p.2 ∈ L.map (·.2)) → Q (.ref a) (upd H a (setO P w a L))
theorem cr_setN (hc : X.calm = true) (hu : X.A.units + 64 < cLine) : CallR X (.type "set") (rSetN X.K X.prog X.w) := by
  intro pins s σ H xs us Q I r h
  obtain ⟨l, ks, rfl, hl, hk, hf, q⟩ := h
  rw [Vals.ref1 r]
  obtain ⟨its, rv, pl, hz⟩ := I.list hl
  have hn : H s.heap.objs.size = none := I.hok.fresh (Nat.le_refl _)
  refine call_set (m := nest X.prog X.w) ks (I.ok.hd hc) pl.isList (by simpa using refs_vals rv) (fun p hp => ⟨(hk p hp).1.h I rfl, (hk p hp).2⟩) hf (by show X.A.units + 1 + 1 + 1 + 8 < cLine; omega) fun h' tk L es ep t R g k => ?_
  refine ⟨.ref s.heap.objs.size, upd H s.heap.objs.size (setO X.prog X.w s.heap.objs.size L), I.laid (t' := tk) k (Nat.le_refl _) (setO_ok R.zero), rfl, q _ L hn (fun p hp => List.mem_of_mem_take (g.sub p hp)) fun p hp => g.all p (by rw [List.take_length]; exact hp)⟩
/-- sorted(set) -/
def rSortedN (K : PySem.W.Frag) (P : Program) (w : World) : List V → Hp → VK → Prop := fun vs H Q => ∃ (a : Addr) (L : List (Addr × NK)), vs = [V.ref a] ∧ H a = some (setO P w a L) ∧ (∀ p ∈ L, KeyV K H (.ref p.1) p.2 ∧ p.2.depth ≤ 8) ∧ Srt NestedKey.data (L.map (·.2)) ∧
  ∀ (L2 : List (Addr × NK)) (p : Addr), L2.Perm L → (L2.map (·.2)).Nodup → L2.length < 64 → (L2.map (·.2)).Pairwise (kLe NestedKey.data) → H p = none → Q (.ref p) (upd H p (.lst (L2.map fun q => V.ref q.1)))
theorem cr_sortedN (hc : X.calm = true) (hu : X.A.units + 64 < cLine) : CallR X (.builtin "sorted") (rSortedN X.K X.prog X.w) := by
  intro pins s σ H vs us Q I r h
  obtain ⟨a, L, rfl, ha, hk, hx, q⟩ := h
  have R0 : Set0 X.prog X.w s.heap a L := (I.hok a _ ha).1
  obtain ⟨es, ep, t, R⟩ := R0.full fun p hp => ⟨(hk p hp).1.h I rfl, (hk p hp).2⟩
  rw [Vals.ref1 r]
  refine sorted_hs R (I.ok.hd hc) (by omega) hx fun s2 p out c L2 k g o hp hg hout pm pw => ?_
  have hfew : L2.length < 64 := by rw [pm.length_eq]; exact R.few
  have hlen : (L2.map fun q => V.ref q.1).length ≤ sizeLine := by rw [List.length_map, sizeLine_eq]; omega
  have hn : H p = none := I.hok.fresh hp
  have hv : Vals (L2.map fun q => V.ref q.1) out.toList := by rw [hout]; exact vals_refs L2
  have J : Inv X pins σ (upd H p (.lst (L2.map fun q => V.ref q.1))) { s with heap := s2.heap, gens := s2.gens, drawn := s2.drawn, toks := s2.toks } :=
    I.call (ch := []) (Un.laid k hp hn) (I.hok.laid k hp ⟨hlen, out.toList, c, hv, hg⟩) (by rw [g]; exact I.bare) (fun _ z => nomatch z)
  have e : s2 = { s with heap := s2.heap, gens := s2.gens, drawn := s2.drawn, toks := s2.toks } := by
    cases s2
    cases s
    cases o
    rfl
  rw [e]
  exact ⟨.ref p, _, J, rfl, q L2 p pm ((pm.map (·.2)).nodup_iff.mpr R.nd) hfew pw hn⟩
end
end SN
end
section
set_option Elab.async false
set_option linter.all false
set_option maxRecDepth 100000
/-! SR: sorted(xs, key=f), f a def that changes nothing; the rules over data. -/
namespace SN
open PySem PySem.Spec PyProof.Rows L2
/-- f's key of a member k is kf k, and nothing that was there changes -/
def KeyFn (P : Program) (w : World) (K : PySem.W.Frag) (f : Addr) (dom : NK → Prop) (kf : NK → PyData) : Prop := ∀ (A : Around) (s : Shared) (v : Value) (k : NK), K.In s.heap → s.heap.NoLimit → A.depth + 3 < recursionLimit → dom k → KeyH s.heap k v →
  wpAny (model P w) A (call (.ref f) [v]) (PySem.W.KeyPure (kf k) s) (fun _ _ => False) s
section
variable {X : Cx}
def rSortedF (K : PySem.W.Frag) (P : Program) (w : World) (f : Addr) (dom : NK → Prop) (kf : NK → PyData) : List V → List V → Hp → VK → Prop := fun vs zs H Q => ∃ (a : Addr) (L : List (Addr × NK)), vs = [V.ref a] ∧ zs = [V.ref f] ∧ SqL K H a (L.map fun p => V.ref p.1) ∧ (∀ p ∈ L, KeyV K H (.ref p.1) p.2 ∧ dom p.2) ∧ Srt kf (L.map (·.2)) ∧ L.length ≤ sizeLine ∧
  ∀ (L2 : List (Addr × NK)) (p : Addr), L2.Perm L → (L2.map (·.2)).Pairwise (kLe kf) → H p = none → Q (.ref p) (upd H p (.lst (L2.map fun q => V.ref q.1)))
theorem cr_sortedF {f : Addr} {dom : NK → Prop} {kf : NK → PyData} {j : Nat} (hr : Room j X.A) (F : KeyFn X.prog X.w X.K f dom kf) : CallRK X (.builtin "sorted") [Str.ofString "key"] (rSortedF X.K X.prog X.w f dom kf) := by
  intro pins s σ H vs zs us ws Q I r rz h
  obtain ⟨a, L, rfl, rfl, hs, hk, hx, hsz, q⟩ := h
  rw [Vals.ref1 r, Vals.ref1 rz]
  obtain ⟨its, rv, pl, hz⟩ := I.list hs
  have ei : its = L.map fun q => Value.ref q.1 := refs_vals rv
  subst ei
  have hal : PySem.W.AllAlike (L.map fun p : Addr × NK => kf p.2) := fun d hd d2 hd2 => hx.al d (by rw [List.map_map]; exact hd) d2 (by rw [List.map_map]; exact hd2)
  have hso : PySem.W.Sortable (L.map fun p : Addr × NK => kf p.2) := hx.so.elim (fun h => .inl fun d hd => h d (by rw [List.map_map]; exact hd)) (fun h => .inr fun d hd => h d (by rw [List.map_map]; exact hd))
  have hdp := hr.dp
  refine PySem.W.sorted_key_data (β := Addr × NK) (R := fun v p => v = Value.ref p.1) (f := .ref f) (b := false) (fun p => kf p.2) (vs := L.map fun q => Value.ref q.1) pl.isList (each_ref (fun _ => rfl) L) hal hso hsz (fun p hp => by have := hx.dp p.2 (List.mem_map.mpr ⟨p, hp, rfl⟩); have := hr.un; omega)
    (PyProof.Rows.ksk_s1 _ _) (fun _ => PyProof.Rows.ksk_l1 _ _) (fun x => ?_) (fun v p hv hp h tk kp => ?_) fun out c h2 tk kp hn hat hl eo => ?_
  · first
      | rfl
      | exact PySem.W.ksk_key1 _ _
  · subst hv
    obtain ⟨h1, h2⟩ := hk p hp
    refine F _ { s with heap := h, toks := tk } (.ref p.1) p.2 (fun b o e => kp b o (I.kIn b o e)) (I.nolimit.keeps kp) (by show X.A.depth + 3 < recursionLimit; omega) h2 ((h1.h I rfl).stayD fun c o vs n hc _ => kp c o hc)
  · have eo2 := each_eq eo
    have pm := List.mergeSort_perm L (PySem.W.dataLe false fun p : Addr × NK => kf p.2)
    have hf : H (s.heap.objs.size + 1) = none := I.hok.fresh (Nat.le_succ _)
    have hlen : ((L.mergeSort (PySem.W.dataLe false fun p : Addr × NK => kf p.2)).map fun q => V.ref q.1).length ≤ sizeLine := by rw [List.length_map, pm.length_eq]; exact hsz
    refine ⟨.ref (s.heap.objs.size + 1), upd H (s.heap.objs.size + 1) (.lst ((L.mergeSort (PySem.W.dataLe false fun p : Addr × NK => kf p.2)).map fun q => V.ref q.1)), I.laid (t' := tk) kp (Nat.le_succ _) ⟨hlen, out, c, by rw [eo2]; exact vals_refs _, hat⟩, rfl, q _ _ pm (List.pairwise_map.mpr (sortLe_pw _ L)) hf⟩
end
end SN
end
section
set_option Elab.async false
set_option linter.all false
set_option maxRecDepth 100000
/-! SS: sorted(set(xs)), sorted(xs, key=f) over data; the key function rank. -/
namespace SN
open PySem PySem.Spec PyProof.Rows L2 DL
mutual
def dK : NK → D
  | .none => .non
  | .num i => .int i
  | .text x => .str x
  | .tup ks => .tup (dKs ks)
def dKs : List NK → List D
  | [] => []
  | k :: ks => dK k :: dKs ks
end
theorem dKs_map : ∀ ks : List NK, dKs ks = ks.map dK
  | [] => by rw [dKs]; rfl
  | k :: ks => by rw [dKs, dKs_map ks]; rfl
mutual
theorem key_of_rep {K : PySem.W.Frag} {B H : Hp} (u : Same B H) : ∀ (k : NK) {v : V}, Rep K B v (dK k) → plainK k = true → KeyV K H v k
  | .none, _, r, _ => by rw [dK] at r; cases r; exact .none
  | .num i, _, r, _ => by rw [dK] at r; cases r; exact .int i
  | .text x, _, r, h => by simp [plainK] at h
  | .tup ks, _, r, h => by
    rw [dK] at r
    rw [plainK] at h
    obtain ⟨a, xs, rfl, hb, r⟩ := r.tuple
    exact .tup (SqT.of (u _ _ hb)) (keys_of_reps u ks r h)
theorem keys_of_reps {K : PySem.W.Frag} {B H : Hp} (u : Same B H) : ∀ (ks : List NK) {vs : List V}, Reps K B vs (dKs ks) → plainKs ks = true → KeyVs K H vs ks
  | [], _, r, _ => by rw [dKs] at r; cases r; exact .nil
  | k :: ks, _, r, h => by
    rw [dKs] at r
    rw [plainKs, Bool.and_eq_true] at h
    cases r with
    | cons r1 r2 => exact .cons (key_of_rep u k r1 h.1) (keys_of_reps u ks r2 h.2)
end
structure OkK (k : NK) : Prop where
  t : ∃ ks, k = .tup ks
  p : plainK k = true
  d : k.depth ≤ 8
theorem rep_ref {K : PySem.W.Frag} {B : Hp} {v : V} {k : NK} (r : Rep K B v (dK k)) (o : OkK k) : ∃ a, v = .ref a := by
  obtain ⟨ks, rfl⟩ := o.t
  rw [dK] at r
  obtain ⟨a, xs, rfl, _⟩ := r.tuple
  exact ⟨a, rfl⟩
theorem members {K : PySem.W.Frag} {B : Hp} : ∀ {keys : List NK} {xs : List V}, Reps K B xs (keys.map dK) → (∀ k ∈ keys, OkK k) → ∃ L : List (Addr × NK), xs = L.map (fun p => V.ref p.1) ∧ L.map (·.2) = keys ∧ ∀ p ∈ L, Rep K B (.ref p.1) (dK p.2)
  | [], _, r, _ => by cases r; exact ⟨[], rfl, rfl, fun p h => nomatch h⟩
  | k :: keys, _, r, h => by
    cases r with
    | cons r1 r2 =>
      obtain ⟨a, rfl⟩ := rep_ref r1 (h k List.mem_cons_self)
      obtain ⟨L, rfl, rfl, e3⟩ := members r2 fun j hj => h j (List.mem_cons_of_mem _ hj)
      refine ⟨(a, k) :: L, rfl, rfl, fun p hp => ?_⟩
      rcases List.mem_cons.mp hp with e | hp
      · rw [e]; exact r1
      · exact e3 p hp
theorem reps_back {K : PySem.W.Frag} {B : Hp} : ∀ {L : List (Addr × NK)}, (∀ p ∈ L, Rep K B (.ref p.1) (dK p.2)) → Reps K B (L.map fun p => V.ref p.1) ((L.map (·.2)).map dK)
  | [], _ => .nil
  | p :: L, h => .cons (h p List.mem_cons_self) (reps_back fun q hq => h q (List.mem_cons_of_mem _ hq))
theorem Srt.sub {f : NK → PyData} {ks js : List NK} (x : Srt f ks) (h : ∀ j ∈ js, j ∈ ks) : Srt f js := by
  have m : ∀ d, d ∈ js.map f → d ∈ ks.map f := fun d hd => by
    obtain ⟨j, hj, rfl⟩ := List.mem_map.mp hd
    exact List.mem_map.mpr ⟨j, h j hj, rfl⟩
  exact ⟨fun d hd d2 hd2 => x.al d (m d hd) d2 (m d2 hd2), x.so.elim (fun q => .inl fun d hd => q d (m d hd)) (fun q => .inr fun d hd => q d (m d hd)), fun k hk => x.dp k (h k hk)⟩
section
variable {X : Cx} {K : PySem.W.Frag} {e : Expr} {te : TE} {We : WE} {p p2 pos pos2 : Pos} {j : Nat}
def wSortSet (We : WE) : WA := fun δ P => We δ fun d => ∃ keys : List NK, d = .lst (keys.map dK) ∧ (∀ k ∈ keys, OkK k) ∧ keys.length < 64 ∧ Srt NestedKey.data keys ∧ ∀ out : List NK, out.Nodup → (∀ k, k ∈ out ↔ k ∈ keys) → out.Pairwise (kLe NestedKey.data) → P (out.map dK)
/-- sorted(set(e)) -/
theorem df_sortSet (hr : Room j X.A) (hc : X.calm = true) (hg : Gl X "sorted") (hm : X.mg "sorted" = none) (hg2 : Gl X "set") (hm2 : X.mg "set" = none) (ha : DW X e te We) (h1 : starEach [e] X.env = (false, eval e X.env) :: starEach [] X.env := by rfl)
    (h2 : starEach [.Call (.Name "set" p2) [e] [] pos2] X.env = (false, eval (.Call (.Name "set" p2) [e] [] pos2) X.env) :: starEach [] X.env := by rfl) (hp1 : (backTo pos2 (starEach [] X.env)).any (·.1) = false := by rfl) (hp2 : (backTo pos (starEach [] X.env)).any (·.1) = false := by rfl) :
    DF X (.Call (.Name "sorted" p) [.Call (.Name "set" p2) [e] [] pos2] [] pos) (tCB (rSortedN X.K X.prog X.w) (tCons (tCB (rSetN X.K X.prog X.w) (tCons te tNil)) tNil)) (wSortSet We) := by
  have hu : X.A.units + 64 < cLine := hr.units
  refine ⟨pe_callB (cr_sortedN hc hu) hg hm rfl (pa_cons (pe_callTy (cr_setN hc hu) hg2 hm2 rfl (pa_cons ha.p pa_nil h1) (by decide) (by decide) h1 hp1) pa_nil h2) (by decide) (by decide) h2 hp2, fun H0 B0 B H σ δ P Q e h q => ha.l H0 B0 B H σ δ _ _ e h fun B1 H1 x d s r ⟨keys, hd, ok, h64, srt, w⟩ => ?_⟩
  subst hd
  obtain ⟨a, xs, rfl, hl, rs⟩ := r.list s.u
  obtain ⟨L, rfl, rfl, rr⟩ := members rs ok
  refine ⟨a, L, rfl, SqL.of hl, fun p hp => ⟨key_of_rep s.u _ (rr p hp) (ok _ (List.mem_map.mpr ⟨p, hp, rfl⟩)).p, (ok _ (List.mem_map.mpr ⟨p, hp, rfl⟩)).d⟩, by rw [← List.length_map (f := fun p : Addr × NK => p.2)]; exact h64, fun b M hb sub all => ?_⟩
  have s2 := Step.raw (o := setO X.prog X.w b M) s.u hb
  have hM : ∀ p ∈ M, p ∈ L := sub
  refine ⟨b, M, rfl, upd_same, fun p hp => ⟨key_of_rep s2.u _ (rr p (hM p hp)) (ok _ (List.mem_map.mpr ⟨p, hM p hp, rfl⟩)).p, (ok _ (List.mem_map.mpr ⟨p, hM p hp, rfl⟩)).d⟩, srt.sub fun k hk => ?_, fun M2 c pm nd few pw hc2 => ?_⟩
  · obtain ⟨p, hp, rfl⟩ := List.mem_map.mp hk
    exact List.mem_map.mpr ⟨p, hM p hp, rfl⟩
  · have s3 := Step.raw (o := .lst (M2.map fun q => V.ref q.1)) s2.u hc2
    refine q B1 _ c _ _ ((s.trans s2).trans s3) (Same.none s.h (Same.none s2.h hc2)) upd_same (Same.none s2.u hc2) (reps_back fun p hp => rr p (hM p (pm.mem_iff.mp hp))) (w _ nd (fun k => ⟨fun hk => ?_, fun hk => ?_⟩) pw)
    · obtain ⟨p, hp, rfl⟩ := List.mem_map.mp hk
      exact List.mem_map.mpr ⟨p, hM p (pm.mem_iff.mp hp), rfl⟩
    · obtain ⟨p, hp, rfl⟩ := List.mem_map.mp hk
      exact (pm.map (·.2)).mem_iff.mpr (all p hp)
def wSortKey (dom : NK → Prop) (kf : NK → PyData) (We : WE) : WA := fun δ P => We δ fun d => ∃ keys : List NK, d = .lst (keys.map dK) ∧ (∀ k ∈ keys, OkK k ∧ dom k) ∧ Srt kf keys ∧ keys.length ≤ sizeLine ∧ ∀ out : List NK, out.Perm keys → out.Pairwise (kLe kf) → P (out.map dK)
/-- sorted(e, key=f) -/
theorem df_sortKey {x : Str} {f : Addr} {dom : NK → Prop} {kf : NK → PyData} {fpos kpos : Pos} (hr : Room j X.A) (F : KeyFn X.prog X.w X.K f dom kf) (hg : Gl X "sorted") (hm : X.mg "sorted" = none) (hgf : Gl X x) (hmf : X.mg x = some (.ref f)) (ha : DW X e te We) (hdf : (x == ("__debug__" : Str)) = false := by decide)
    (hs : starEach [e] X.env = (false, eval e X.env) :: starEach [] X.env := by rfl) (he : backTo pos (starEach [e] X.env) = (false, eval e X.env) :: backTo pos (starEach [] X.env) := by rfl) (hpl : (backTo pos (starEach [e] X.env)).any (·.1) = false := by rfl)
    (hall : (backToKw pos (keywordEach [⟨some "key", .Name x fpos, kpos⟩] X.env)).all (·.1.isSome) = true := by rfl) (hnone : (backToKw pos (keywordEach [⟨some "key", .Name x fpos, kpos⟩] X.env)).any (·.1.isNone) = false := by rfl) (hks : (backToKw pos (keywordEach [⟨some "key", .Name x fpos, kpos⟩] X.env)).filterMap (·.1) = [Str.ofString "key"] := by rfl) :
    DF X (.Call (.Name "sorted" p) [e] [⟨some "key", .Name x fpos, kpos⟩] pos) (tCKw (rSortedF X.K X.prog X.w f dom kf) (tCons te tNil) (tCons (tC (.ref f)) tNil)) (wSortKey dom kf We) := by
  refine ⟨pe_callBK (cr_sortedF hr F) hg hm rfl (pa_cons ha.p pa_nil hs) (pk_cons (pe_glob (v := .ref f) hgf hmf rfl hdf) pk_nil) (by decide) (by decide) he hpl hall hnone hks, fun H0 B0 B H σ δ P Q e h q => ha.l H0 B0 B H σ δ _ _ e h fun B1 H1 x d s r ⟨keys, hd, ok, srt, hz, w⟩ => ?_⟩
  subst hd
  obtain ⟨a, xs, rfl, hl, rs⟩ := r.list s.u
  obtain ⟨L, rfl, rfl, rr⟩ := members rs fun k hk => (ok k hk).1
  refine ⟨a, L, rfl, rfl, SqL.of hl, fun p hp => ⟨key_of_rep s.u _ (rr p hp) (ok _ (List.mem_map.mpr ⟨p, hp, rfl⟩)).1.p, (ok _ (List.mem_map.mpr ⟨p, hp, rfl⟩)).2⟩, srt, by rw [← List.length_map (f := fun p : Addr × NK => p.2)]; exact hz, fun M c pm pw hc2 => ?_⟩
  have s3 := Step.raw (o := .lst (M.map fun q => V.ref q.1)) s.u hc2
  exact q B1 _ c _ _ (s.trans s3) (Same.none s.h hc2) upd_same (Same.none s.u hc2) (reps_back fun p hp => rr p (pm.mem_iff.mp hp)) (w _ (pm.map _) pw)
end
end SN
end
section
set_option Elab.async false
set_option linter.all false
set_option maxRecDepth 100000
set_option maxHeartbeats 2000000
/-! EX1: an own exception over own classes over ValueError, whose __init__ says super().__init__('text') and self.f = f: made. -/
namespace PySem
namespace EX
open PySem.W PySem.Calls PyProof.Rows PySem.HandSPX
def iA (f : Str) (p1 p2 : Pos) : Arguments := { posonlyargs := [], args := [{ arg := "self", annotation := none, pos := p1 }, { arg := f, annotation := none, pos := p2 }], vararg := none, kwonlyargs := [], kw_defaults := [], kwarg := none, defaults := [] }
def iB (f m : Str) (j : Nat) (q1 q2 q3 q4 q5 q6 r1 r2 r3 r4 : Pos) : List Stmt :=
  [.Expr (.Call (.Attribute (.Call (.Name "super" q1) [] [] q2) "__init__" q3) [.Constant (.str m) j q4] [] q5) q6, .Assign [.Attribute (.Name "self" r1) f r2] (.Name f r3) r4]
def iS (f : Str) : Scope := { kind := .function, names := [(PySem.Str.ofString "self", .local), (f, .local), (PySem.Str.ofString "__class__", .free), (PySem.Str.ofString "super", .globalImplicit)], isGenerator := false, isCoroutine := false, more := [] }
/-- what the written part says of the class at C, its __init__ at fI, its cell at cc, its code at cda -/
structure ExT (P : Program) (K : Frag) (mg : Str → Option Value) (x f m qual : Str) (C fI cc cda : Addr) : Prop where
  gC : mg x = some (.ref C)
  cls : ∃ nm q N bs bm sn sub ab col dd k0 k1 k2 k3 k5, K.lookup C = some (excClassObj nm q C N bs bm true sn sub ab col dd k0 k1 k2 k3 k5 "ValueError.__new__") ∧ refsVE bm = true
  sa : findIn K (.ref C) "__setattr__" = some (some (.builtin "object.__setattr__"))
  ga : findIn K (.ref C) "__getattribute__" = some (some (.builtin "BaseException.__getattribute__"))
  gg : findIn K (.ref C) "__getattr__" = some none
  noN : findIn K (.ref C) f = some none
  iC : findIn K (.ref C) "__init__" = some (some (.ref fI))
  tC : typeIn K (.ref fI) = some (.type "function")
  kC : keepIn K (.ref C) = true
  exC : subIn K (.ref C) (.type "BaseException") = some true
  vaC : subIn K (.ref C) (.type "ValueError") = some true
  tyC : typeIn K (.ref C) = some (.type "type")
  hdC : hasDictIn K C = true
  te : exmOne K (.ref C) (.ref C) = some true
  op : nsIn K cStatics "thirdparty.any" = some none
  su : ks_superIn K C C "__init__" = some (some (.builtin "ValueError.__init__"))
  me : mroIn K C (.ref C) = some true
  noS : mg "super" = none
  top : (P.main.scope.names.lookup ("super" : Str)).isSome = false
  cell : ∃ cl cld csl, K.lookup cc = some ⟨cl, cld, .cell (some (.ref C)), csl⟩
  code : ∃ ccl cdd vs ccs tf, K.lookup cda = some ⟨ccl, cdd, .fields vs, ccs⟩ ∧ vs[2]? = some (.str P.main.file tf)
  fn : ∃ (oc : Value) (od : Option Addr) (doc pm : Value) (an : Option Addr) (ct : Value) (osl : Array (Option Value)) (j : Nat) (p1 p2 q1 q2 q3 q4 q5 q6 r1 r2 r3 r4 : Pos),
    K.lookup fI = some ⟨oc, od, .func (ksFn "__init__" qual (iA f p1 p2) (iB f m j q1 q2 q3 q4 q5 q6 r1 r2 r3 r4) (iS f) .none .none doc pm an (.ref cda) ct cc), osl⟩ ∧ codeIn K (.ref cda) qual = true ∧ (q3.endLine == q5.line) = true
theorem one_size (v : Value) : [v].length ≤ sizeLine := by
  rw [sizeLine_eq]
  exact (by decide : 1 ≤ 16777216)
theorem kept_but {K : Frag} {h h' : Heap} {x : Addr} (X : K.In h) (hx : K.lookup x = none) (k : ∀ b o, b ≠ x → h.get? b = some o → h'.get? b = some o) : K.In h' := fun a o e =>
  k a o (fun z => by rw [z, hx] at e; cases e) (X a o e)
theorem ldK {M : Model} {A : Around} {E : Value → Shared → Prop} {s : Shared} {qual : Str} {scope : Scope} {L a cc : Addr} {cd : Value} {m : Str → Option Value} {y : Str} {pos : Pos} {v : Value} {Q : Value → Shared → Prop} (hn : s.heap.Ns L m) (hv : m y = some v) (h : Q v s)
    (hk : scope.kind = .function := by rfl) (hl : (ksEnv qual scope L a cd cc).kindOf y = some .local := by rfl) (hd : (y == ("__debug__" : Str)) = false := by decide) :
    wpAny M A (eval (.Name y pos) (ksEnv qual scope L a cd cc)) Q E s := wpAny_Name (wpAny_loadName_local hk hl hn hv h) hd
/-- what __init__ leaves of a fresh exception at x -/
structure InitEnd (f : Str) (h h' : Heap) (x C dx t1 : Addr) (v : Value) : Prop where
  keep : ∀ b o, b ≠ x → h.get? b = some o → h'.get? b = some o
  obj : h'.get? x = some { cls := .ref C, dict := some dx, data := .fields #[.ref t1, .none, .none, .none, .bool false, .none] }
  dbig : h.objs.size ≤ dx
  dne : dx ≠ x
  ns : h'.Ns1 dx (fun y => if y = f then some v else none)
section
variable {prog : Program} {w : World} {A : Around} {E : Value → Shared → Prop} {h : Heap} {g : Array GenState} {d : Drawn} {t : Nat} {os : OsState}
variable {nm q : Str} {C N : Addr} {bs bm : List Value} {hdct : Bool} {sn : List Str} {sub : List Value} {ab : Bool} {col : Option Bool} {dd : Option Addr} {k0 k1 k2 k3 k5 : Option Value}
/-- the bound ValueError.__init__ called: the args are laid anew -/
theorem call_mw {u e t0 : Addr} {rest : List Value} {Q : Value → Shared → Prop}
    (hC : h.get? C = some (excClassObj nm q C N bs bm hdct sn sub ab col dd k0 k1 k2 k3 k5 "ValueError.__new__")) (he : h.get? e = some (excO C t0)) (hu : h.get? u = some (kxs_mw "ValueError.__init__" e)) (hrest : rest.length ≤ sizeLine)
    (hq : ∀ h' t1, (∀ b o, b ≠ e → h.get? b = some o → h'.get? b = some o) → h'.get? e = some (excO C t1) → Q .none ⟨h', g, d, t, os⟩) :
    wpAny (model prog w) A (call (.ref u) rest) Q E ⟨h, g, d, t, os⟩ := by
  refine wpAny_call (codeAny_of_tree ?_)
  show wpAny _ A.in1 (callAny (.ref u) ⟨rest, []⟩) _ _ _
  simp only [callAny]
  refine wpAny_bind (wpAny_load hu ?_)
  simp only [kxs_mw, show (Value.type "method-wrapper" == Value.type "method" || Value.type "method-wrapper" == Value.type "builtin_function_or_method" || Value.type "method-wrapper" == Value.type "method-wrapper") = true by decide, if_true]
  refine W.KFB.if_so (by decide) ?_
  refine wpAny_bind (check_bound_init F.excBase_ValueError.toExcCallFacts hC he rfl ?_)
  refine wpAny_bind (wpAny_pure (wpAny_pure ?_))
  refine ⟨Code.quiet_builtin _ (by decide +kernel), codeAny_builtin F.excBase_ValueError.initEntry ?_⟩
  rw [Around.under_plainId F.excBase_ValueError.init.plain _]
  wp_walk
  refine hq _ h.objs.size (fun b o hb ho => ?_) ?_
  · rw [Heap.get?_update_other _ _ (Ne.symm hb)]
    exact Heap.get?_push_of_some _ ho
  · rw [Heap.get?_update_self _ (Heap.get?_push_of_some _ he) rfl]
    rfl
end
section
variable {prog : Program} {w : World} {A : Around} {E : Value → Shared → Prop} {R : Result → Shared → Prop} {s : Shared} {K : Frag} {mg : Str → Option Value} {x m qual : Str} {C fI cc cda : Addr}
theorem callW1 {M : Model} {A : Around} {E : Value → Shared → Prop} {s : Shared} {pos : Pos} {u e : Addr} {i : String} {env : Env} {a : Expr} {Q : Value → Shared → Prop}
    (h : wpAny M A (spliced (backTo pos (starEach [a] env))) (fun vs s₁ => s₁.heap.get? u = some (kxs_mw i e) ∧ wpAny M A (call (.ref u) vs) Q E s₁) E s)
    (he : starEach [a] env = [(false, eval a env)] := by rfl) : wpAny M A (callWith pos (.ref u) [] (backTo pos (starEach [a] env)) []) Q E s := by
  rw [he] at h ⊢
  refine kxs_callWith (i := i) (x := e) rfl ?_
  exact evalArgs_plain h
theorem ev_super {env : Env} {o a : Expr} {n : Str} {p q : Pos} (h : (p.endLine == q.line) = true) (hf : starEach [a] env = [(false, eval a env)]) :
    eval (.Call (.Attribute o n p) [a] [] q) env = (do
      let ov ← attributeBase o n env (eval o env)
      standAt p.atName
      let (f, first) ← holding [ov] (getMethod ov n (do return (← importBound o env).getD true))
      callWith q f first (backTo q (starEach [a] env)) []) := by
  have e1 : eval (.Call (.Attribute o n p) [a] [] q) env = (do
      let ov ← attributeBase o n env (eval o env)
      standAt p.atName
      methodCall o n p q env ov 1 (backTo q (starEach [a] env)) []) := by rfl
  rw [e1]
  unfold methodCall methodCallPos calleeOf
  have e2 : methodCallForm 1 (backTo q (starEach [a] env)) ([] : List (Option Str × Sem Value)) = true := by rw [hf]; rfl
  simp only [e2, h, Bool.or_true, if_true]
  rfl
theorem ex_init (T : ExT prog K mg x "lot" m qual C fI cc cda) {e t0 : Addr} {v : Value} (X : K.In s.heap) (hG : s.heap.Ns mainGlobals mg) (hB : ∃ mb, s.heap.Ns builtinsNs mb ∧ ∀ y : Str, y ≠ "__name__" → mb y = bootBuiltins y) (hlim : s.heap.NoLimit)
    (hx : s.heap.get? e = some (excO C t0)) (hnx : K.lookup e = none) (hroom : A.depth < recursionLimit)
    (hq : ∀ h' tk dx t1, InitEnd "lot" s.heap h' e C dx t1 v → R (.ok (.ret .none)) { s with heap := h', toks := tk }) :
    codeAny (model prog w) A (.call (.ref fI) ⟨[.ref e, v], []⟩) R s := by
  obtain ⟨oc, od, doc, pm, an, ct, osl, j, p1, p2, q1, q2, q3, q4, q5, q6, r1, r2, r3, r4, ho, hcd, hln⟩ := T.fn
  obtain ⟨nm, q, N, bs, bm, sn, sub, ab, col, dd, k0, k1, k2, k3, k5, hC, hbm⟩ := T.cls
  obtain ⟨cl, cld, csl, hcell⟩ := T.cell
  obtain ⟨ccl, cdd, cvs, ccs, tf, hcode, hvs⟩ := T.code
  have hcl : clsIn K C = some { name := nm, bases := bs, mro := .ref C :: bm, ns := N, qualname := q, hasDict := true, slotNames := sn, subclasses := sub, abstract := ab, collection := col, hasDel := false } := by unfold clsIn; rw [hC] <;> rfl
  refine ks_codeAny_call_defAt (binds := [("self", .ref e), ("lot", v)]) hroom (X _ _ ho) rfl hlim (codeRec_of X hcd) rfl (BindsTo.of_eq (by first | rfl | with_unfolding_all rfl)) (show ∀ y ∈ (iS "lot").names, y.2 ≠ .cell by decide) (fun y hy => ?_) (fun h₁ hns k => ?_)
  · rcases List.mem_cons.mp hy with rfl | hy
    · rfl
    · rw [List.mem_singleton.mp hy]
      rfl
  have hlt : s.heap.objs.size < h₁.objs.size := by
    obtain ⟨oL, _, _, hL, _⟩ := hns
    exact Heap.lt_size hL
  have heL : e ≠ s.heap.objs.size := Nat.ne_of_lt (Heap.lt_size hx)
  have X₁ : K.In h₁ := X.keeps k
  have hx₁ := k _ _ hx
  have hC₁ := X₁ _ _ hC
  show wpAt _ _ (.func _ (ksEnv qual (iS "lot") s.heap.objs.size fI (.ref cda) cc)) (execs _ (ksEnv qual (iS "lot") s.heap.objs.size fI (.ref cda) cc)) _ _ _
  refine ks_wpAt_execs_cons (ks_wpAt_Expr_any (ks_wpAt_MethodCall (pl := do return (← importBound (.Call (.Name "super" q1) [] [] q2) (ksEnv qual (iS "lot") s.heap.objs.size fI (.ref cda) cc)).getD true) ?_ (ev_super hln rfl)))
  obtain ⟨mb, hb1, hb2⟩ := hB
  refine ks_wpAt_super_base (env := ksEnv qual (iS "lot") s.heap.objs.size fI (.ref cda) cc) (by rfl) (by rfl) (by rfl) rfl (X₁ _ _ ho) rfl (by rfl) rfl (X₁ _ _ hcode) rfl hvs (by simp) T.top ?_
  refine ks_loadName_global (by rfl) (by rfl) (loadGlobal_builtin (env := ksEnv qual (iS "lot") s.heap.objs.size fI (.ref cda) cc) (hG.keeps k) T.noS (hb1.keeps k) ((hb2 "super" (by decide)).trans (by first | rfl | decide +kernel)) ⟨rfl, ?_⟩)
  refine wpAny_loadName_free (by rfl) (by rfl) (by rfl) ⟨_, X₁ _ _ hcell, rfl⟩ ?_
  refine wpAny_loadName_local (v := .ref e) (by rfl) (by rfl) hns (by rfl) ?_
  refine ks_wpAny_isType_cls hC₁ rfl ⟨rfl, ?_⟩
  refine ks_wpAny_call_super hC₁ rfl hx₁ rfl (fun c z => by cases z) (looks_mroIn X₁ T.me) (fun h₂ hso k₂ => ?_)
  have X₂ : K.In h₂ := X₁.keeps k₂
  have hx₂ := k₂ _ _ hx₁
  have eC : e ≠ C := fun z => by
    have hC' := X _ _ hC
    rw [← z, hx] at hC'
    cases hC'
  have hsu := T.su
  unfold ks_superIn at hsu
  rw [hcl, Option.bind_some] at hsu
  have hI : Looks (model prog w) h₂ (isInstance (.ref e) (.type "ValueError")) true := (InstAt.type (ox := excO C t0) (od := none) ⟨hx₂, rfl, rfl, trivial⟩).andThen (looks_subIn X₂ T.vaC)
  refine kxs_getMethod kxs_ValueError hso (looks_opaque X₂ T.op) (l₀ := .ref C :: bm) (fun A Q E s k q => wpAny_bind ((looks_clsIn X₂ hcl) A _ E s k (wpAny_pure q))) rfl X₂ hsu hI eC rfl ?_
  refine callW1 (i := "ValueError.__init__") (e := e) ?_
  refine spliced_cons (Calls.Constant_str (k := j) (pos := q4) (spliced_nil ?_))
  refine ⟨Heap.get?_push_at rfl rfl, ?_⟩
  have k₃ : ∀ b o, h₂.get? b = some o → (h₂.push (kxs_mw "ValueError.__init__" e)).get? b = some o := fun b o z => Heap.get?_push_of_some _ z
  refine call_mw (k₃ _ _ (X₂ _ _ hC)) (k₃ _ _ hx₂) (Heap.get?_push_at rfl rfl) (one_size _) fun h₄ t1 k₄ hx₄ => ?_
  show wpAt _ _ _ (execs _ _) _ _ _
  have X₄ : K.In h₄ := kept_but (X₂.keeps k₃) hnx k₄
  have hns₄ : h₄.Ns s.heap.objs.size (fun y => ([(("self" : Str), Value.ref e), (("lot" : Str), v)] : List (Str × Value)).reverse.lookup y) := hns.at fun o z => k₄ _ _ (Ne.symm heL) (k₃ _ _ (k₂ _ _ z))
  refine wpAt_of_wpAny (wpAny_execs_cons (plainObj_wpAny_Assign_Attribute ?_))
  refine ldK (v := v) hns₄ (by first | rfl | with_unfolding_all rfl | kernel_rfl) (ldK (v := .ref e) hns₄ (by first | rfl | with_unfolding_all rfl | kernel_rfl) ?_)
  refine set_plain X₄ (ox := excO C t1) (od := none) ⟨hx₄, rfl, rfl, trivial⟩ T.sa ?_
  refine exc_osa X₄ hx₄ hcl (show refsVE (.ref C :: bm) = true from hbm) rfl T.noN (fun h₅ tk₅ dx k₅ dn dne hx₅ hn₅ => ?_)
  show wpAny _ _ (execs _ _) _ _ _
  have old : ∀ b o, b ≠ e → s.heap.get? b = some o → h₄.get? b = some o := fun b o hb z => k₄ b o hb (k₃ b o (k₂ b o (k b o z)))
  have hsz : s.heap.objs.size < h₄.objs.size := by
    obtain ⟨oL, _, _, hL, _⟩ := hns₄
    exact Heap.lt_size hL
  exact wpAny_execs_nil (hq h₅ tk₅ dx t1 ⟨fun b o hb z => k₅ b o hb (old b o hb z), hx₅, Nat.le_of_lt (Nat.lt_of_lt_of_le hsz dn), dne, hn₅⟩)
/-- made -/
structure OwnMade (h h' : Heap) (e C d : Addr) (v : Value) : Prop where
  keep : ∀ b o, h.get? b = some o → h'.get? b = some o
  new : h.objs.size ≤ e
  obj : ∃ oe vs, h'.get? e = some oe ∧ oe.cls = .ref C ∧ oe.dict = some d ∧ oe.data = .fields vs ∧ vs[1]? = some .none ∧ vs[2]? = some .none
  dbig : h.objs.size ≤ d
  dne : d ≠ e
  ns : h'.Ns1 d (fun y => if y = "lot" then some v else none)
theorem ex_made (T : ExT prog K mg x "lot" m qual C fI cc cda) {v : Value} (X : K.In s.heap) (hG : s.heap.Ns mainGlobals mg) (hB : ∃ mb, s.heap.Ns builtinsNs mb ∧ ∀ y : Str, y ≠ "__name__" → mb y = bootBuiltins y) (hlim : s.heap.NoLimit) (hroom : A.depth + 1 < recursionLimit)
    (hq : ∀ h' tk e d, OwnMade s.heap h' e C d v → R (.ok (.ret (.ref e))) { s with heap := h', toks := tk }) :
    codeAny (model prog w) A (.call (.ref C) ⟨[v], []⟩) R s := by
  obtain ⟨nm, q, N, bs, bm, sn, sub, ab, col, dd, k0, k1, k2, k3, k5, hC, hbm⟩ := T.cls
  obtain ⟨hp, g, dr, tk, os⟩ := s
  have k : ∀ b o, hp.get? b = some o → ((hp.push (kdv_tup [v])).push (excO C hp.objs.size)).get? b = some o := fun b o e => Heap.get?_push_of_some _ (Heap.get?_push_of_some _ e)
  have hget : ((hp.push (kdv_tup [v])).push (excO C hp.objs.size)).get? (hp.objs.size + 1) = some (excO C hp.objs.size) := by heap_get
  have hnx : K.lookup (hp.objs.size + 1) = none := by
    cases e : K.lookup (hp.objs.size + 1) with
    | none => rfl
    | some o =>
      have z : hp.get? (hp.objs.size + 1) = some o := X _ _ e
      exact absurd (Nat.lt_of_succ_lt (Heap.lt_size z)) (Nat.lt_irrefl _)
  refine call_own F.excBase_ValueError (fun X => refsVE_contains X bm hbm) (X _ _ hC) (looks_findIn X T.iC) (fun self => bind_fn X self T.tC) (one_size v) ?_
  obtain ⟨mb, hb1, hb2⟩ := hB
  refine ex_init (s := ⟨(hp.push (kdv_tup [v])).push (excO C hp.objs.size), g, dr, tk, os⟩) T (X.keeps k) (hG.keeps k) ⟨mb, hb1.keeps k, hb2⟩ (hlim.keeps k) hget hnx ?_ fun h' tk' dx t1 ⟨k', hx, dn, dne, hns⟩ => ?_
  · show A.depth + 1 < recursionLimit
    exact hroom
  · have old : ∀ b o, hp.get? b = some o → h'.get? b = some o := fun b o e => k' b o (Nat.ne_of_lt (Nat.lt_succ_of_lt (Heap.lt_size e))) (k b o e)
    have z : hp.objs.size + 1 + 1 ≤ dx := by
      first
        | (simpa only [Heap.size_push] using dn)
        | exact dn
        | (have q := dn; rw [Heap.size_push, Heap.size_push] at q; exact q)
    exact ⟨rfl, hq h' tk' (hp.objs.size + 1) dx ⟨old, Nat.le_succ _, ⟨_, _, hx, rfl, rfl, rfl, rfl, rfl⟩, Nat.le_trans (Nat.le_trans (Nat.le_succ _) (Nat.le_succ _)) z, dne, hns⟩⟩
end
end EX
end PySem
end
section
set_option Elab.async false
set_option linter.all false
set_option maxRecDepth 100000
set_option maxHeartbeats 2000000
/-! EX2: the exception of EX1: raised by a def, read in a suite. -/
namespace L2
open PySem PySem.Spec PyProof.Rows
theorem relO_lot {v : V} {v' : Value} (r : RelV v v') (f : Str) : RelO (List.lookup f [(("lot" : Str), v)]) (if f = "lot" then some v' else none) := by
  by_cases hw : f = "lot"
  · subst hw
    rw [if_pos rfl]
    have q : List.lookup ("lot" : Str) [(("lot" : Str), v)] = some v := by simp [List.lookup]
    rw [q]
    exact r
  · rw [if_neg hw]
    have qw : (f == ("lot" : Str)) = false := by simpa using hw
    have q2 : List.lookup f [(("lot" : Str), v)] = none := by simp [List.lookup, qw]
    rw [q2]
    trivial
section
variable {X : Cx} {x m qual : Str} {C fI cc cda : Addr}
/-- x(e) -/
def tMkEx (C : Addr) (ta : TA) : St → Hp → XK → Prop := fun σ H Q => ta σ H fun vs H1 => ∃ v, vs = [v] ∧ ∀ d, H1 d = none → Q (.ref C) (some d) (upd H1 d (.xd [(("lot" : Str), v)]))
theorem pmk_ex {a : Expr} {ta : TA} {p pos : Pos} {k : Nat} (T : PySem.EX.ExT X.prog X.K X.mg x "lot" m qual C fI cc cda) (hr : Room k X.A) (ha : PA X [a] ta) (hg : Gl X x := by rfl) (hdb : (x == ("__debug__" : Str)) = false := by decide)
    (he : starEach (a :: []) X.env = (false, eval a X.env) :: starEach [] X.env := by rfl) (hpl : (backTo pos (starEach [] X.env)).any (·.1) = false := by rfl) :
    L2N.PMk X (.Call (.Name x p) [a] [] pos) (tMkEx C ta) := by
  intro pins s σ H Q I h
  refine wpAny_Call_Name_kw (ld_glob I hg T.gC ?_ hdb)
  refine PySem.W.callWith_K (h₀ := X.base) I.ok.mod.kin T.kC (thn (ha.run pos pins s σ H _ I h) fun us s1 hh => ?_) he hpl
  obtain ⟨vs, H1, I1, r1, v, ev, q1⟩ := hh
  subst ev
  refine ⟨I1.kIn, ?_⟩
  cases r1 with
  | cons rv rn =>
    rename_i v' us'
    cases rn
    show wpAny _ _ (call (.ref C) [v']) _ _ _
    have hlim := I1.nolimit
    have hG := I1.mod.glob.keeps I1.bk
    have hB : ∃ mb, s1.heap.Ns builtinsNs mb ∧ ∀ y : Str, y ≠ "__name__" → mb y = bootBuiltins y := by
      obtain ⟨mb, h1, h2⟩ := I1.mod.blt
      exact ⟨mb, h1.keeps I1.bk, h2⟩
    obtain ⟨hp, g, dr, tk, os⟩ := s1
    refine wpAny_call (PySem.EX.ex_made T I1.kIn hG hB hlim (by have := hr.dp; omega) fun h' tk' e d M => ?_)
    show L2N.MkP X pins σ Q (.ref e) ⟨h', g, dr, tk', os⟩
    obtain ⟨oe, fv, hoe, hc, hd, hdat, h1, h2⟩ := M.obj
    have hns := M.ns
    obtain ⟨G', g1, g2⟩ := restrict h' fun b => decide (b ≠ e)
    have gk : ∀ b, b ≠ e → G'.get? b = h'.get? b := fun b hb => g1 b (decide_eq_true hb)
    have ge : G'.get? e = none := g2 e (by simp)
    have old : ∀ b o, hp.get? b = some o → G'.get? b = some o := fun b o q => (gk b (Nat.ne_of_lt (Nat.lt_of_lt_of_le (Heap.lt_size q) M.new))).trans (M.keep b o q)
    have ob : ObjOk X.prog X.w (upd H1 d (.xd [(("lot" : Str), v)])) G' d (.xd [(("lot" : Str), v)]) :=
      ⟨_, hns.at (fun o q => (gk d M.dne).trans q), fun f => relO_lot rv f⟩
    have J : Inv X pins σ (upd H1 d (.xd [(("lot" : Str), v)])) ⟨G', g, dr, tk', os⟩ := I1.laid (t' := tk') old M.dbig ob
    refine ⟨e, oe, fv, ⟨G', g, dr, tk', os⟩, _, .ref C, some d, rfl, J, fun b o q => ?_, ge, hoe, ⟨hc, hd, fun vs z => by rw [hdat] at z; cases z; exact h2⟩, hdat, h1, ?_, rfl, I1.bare, raises_own T.exC T.tyC, q1 d (I1.hok.fresh M.dbig)⟩
    · by_cases hb : b = e
      · have q' : G'.get? b = some o := q
        rw [hb, ge] at q'; cases q'
      · exact (gk b hb).symm.trans q
    · rw [upd_ne (Ne.symm M.dne)]
      exact I1.hok.fresh M.new
/-- raise x(e) -/
def tRaiseEx (C : Addr) (W : WX) (ta : TA) : TS := fun _ σ H => tMkEx C ta σ H fun cls d H' => W cls d σ H'
theorem ps_raiseEx {a : Expr} {ta : TA} {W : WX} {p pos pos2 : Pos} {k : Nat} (hc : X.calm = true) (T : PySem.EX.ExT X.prog X.K X.mg x "lot" m qual C fI cc cda) (hr : Room k X.A) (tk : L2N.Takes X W) (ha : PA X [a] ta) (hg : Gl X x := by rfl) (hdb : (x == ("__debug__" : Str)) = false := by decide)
    (he : starEach (a :: []) X.env = (false, eval a X.env) :: starEach [] X.env := by rfl) (hpl : (backTo pos (starEach [] X.env)).any (·.1) = false := by rfl) :
    PS X (.Raise (some (.Call (.Name x p) [a] [] pos)) none pos2) (tRaiseEx C W ta)   := L2N.ps_raise hc tk (pmk_ex T hr ha hg hdb he hpl)
/-- e.lot, e the exception that the suite holds (at a; its class cls, its dict d) -/
def tLotEx (C : Addr) (a : Addr) (cls : Value) (d : Option Addr) (te : TE) : TE := fun σ H Q => te σ H fun x H1 => x = .ref a ∧ cls = .ref C ∧ ∃ (dd : Addr) (v : V), d = some dd ∧ H1 dd = some (.xd [(("lot" : Str), v)]) ∧ Q v H1
theorem pe_lotEx {a : Addr} {oe : Obj} {cls : Value} {d : Option Addr} {pn : List (Addr × Obj)} {e : Expr} {te : TE} {pos : Pos} (T : PySem.EX.ExT X.prog X.K X.mg x "lot" m qual C fI cc cda) (hz : L2N.Zn cls d oe) (hf : ∃ vs, oe.data = .fields vs) (he : PE (X.suite a ((a, oe) :: pn)) e te)
    (hb : attributeBase e "lot" X.env (eval e X.env) = eval e X.env := by rfl) :
    PE (X.suite a ((a, oe) :: pn)) (.Attribute e "lot" pos) (tLotEx C a cls d te) := by
  refine ⟨fun pins s σ H Q I h => ?_⟩
  refine attr_of hb (thn (he.run pins s σ H _ I h) fun u s1 hh => ?_)
  obtain ⟨x, H1, I1, rx, ex, ec, dd, v, ed, ea, q⟩ := hh
  subst ex
  obtain rfl : u = Value.ref a := rx
  subst ec
  subst ed
  obtain ⟨ha, _⟩ := I1.pin (a, oe) (List.mem_append_left _ List.mem_cons_self)
  obtain ⟨vs, hd⟩ := hf
  have hx : ObjOk X.prog X.w H1 s1.heap dd (.xd [(("lot" : Str), v)]) := I1.hok dd _ ea
  obtain ⟨mA, hns, hr⟩ := hx
  obtain ⟨od, ho, hl⟩ := lookIn_ns hns
  have l : List.lookup ("lot" : Str) [(("lot" : Str), v)] = some v := by simp [List.lookup]
  obtain ⟨u, hu, ru⟩ := RelO.some_of (v := v) (o := mA "lot") (by rw [← l]; exact hr "lot")
  have J : PySem.W.InstAt s1.heap a oe C (some od) := ⟨ha, hz.1, by unfold PySem.W.notCls; rw [hd] <;> rfl, by rw [hz.2.1]; exact ho⟩
  exact HandSPX.exc_get I1.kIn J T.ga T.gg T.exC (PySem.W.findObj_own T.hdC T.noN rfl (by rw [hl, hu])) (handed_of ru) ⟨v, H1, I1.tok _, ru, q⟩
/-- the suite of such an exception bears it -/
theorem hot_suite {X : Cx} {a : Addr} {oe : Obj} {cls : Value} {d : Option Addr} {pn : List (Addr × Obj)} (hz : L2N.Zn cls d oe) (hf : ∃ vs, oe.data = .fields vs) : L2H.HotC (X.suite a ((a, oe) :: pn)) := by
  obtain ⟨vs, hv⟩ := hf
  exact ⟨(a, oe), ⟨rfl, vs, hv, hz.2.2 vs hv⟩, List.mem_cons_self⟩
end
end L2
end
section
set_option Elab.async false
set_option linter.all false
set_option maxRecDepth 100000
/-! K0: the text, what the head tells of it (printed by mk0.py). -/
namespace K87
open PySem PySem.Spec PyProof.Rows L2 DL
def top (i : Nat) : Stmt := PySem.Challenge.pw_layersserve_k75_whole_contracted_growth.main.body.getD i (.Pass ⟨0, 0, 0, 0⟩)
def cm (i j : Nat) : Stmt := (clsB (top i)).getD j (.Pass ⟨0, 0, 0, 0⟩)
structure TabT (K : PySem.W.Frag) (mg : Str → Option Value) (CT : Addr) : Prop where
  nm : mg "Table" = some (.ref CT)
  cls : Cls K CT
  n_columns : NoAttr K CT "columns"
  n__rows : NoAttr K CT "_rows"
  n_things : NoAttr K CT "things"
  init : TxtI K CT "Table.__init__" (cm 30 2) ["self", "rows", "columns"]
  m_row : TxtM K CT "row" "Table.row" (cm 30 5) ["self", "thing"]
  m_rows_of : TxtM K CT "rows_of" "Table.rows_of" (cm 30 6) ["self", "things"]
  m_free : TxtM K CT "free" "Table.free" (cm 30 7) ["self", "things"]
  rd : ∃ mc, ClX.CRead K CT mc ∧ (∃ u, ClX.CVal K CT mc "MOST_ROWS" (.int 12) u) ∧ ∃ u, ClX.CVal K CT mc "MOST_COLUMNS" (.int 6) u
structure SchT (K : PySem.W.Frag) (mg : Str → Option Value) (CS : Addr) : Prop where
  nm : mg "Scheme" = some (.ref CS)
  cls : Cls K CS
  n_table : NoAttr K CS "table"
  n_size : NoAttr K CS "size"
  n_spare : NoAttr K CS "spare"
  n_width : NoAttr K CS "width"
  init : TxtI K CS "Scheme.__init__" (cm 24 1) ["self", "table", "size"]
  m_check : TxtM K CS "check" "Scheme.check" (cm 24 2) ["self", "lot"]
  m_check_ask : TxtM K CS "check_ask" "Scheme.check_ask" (cm 24 3) ["self", "ask"]
  m_row : TxtM K CS "row" "Scheme.row" (cm 24 4) ["self", "lot"]
  m_first_rows : TxtM K CS "first_rows" "Scheme.first_rows" (cm 24 7) ["self", "rows"]
  m_fits : TxtM K CS "fits" "Scheme.fits" (cm 24 8) ["self", "lot", "ask"]
  exact_ : ∃ u, Con K CS "EXACT" (.bl false) u
structure Txt (K : PySem.W.Frag) (mg : Str → Option Value) (CT CS CB : Addr) : Prop where
  b_range : mg "range" = none
  b_tuple : mg "tuple" = none
  b_sorted : mg "sorted" = none
  b_enumerate : mg "enumerate" = none
  b_isinstance : mg "isinstance" = none
  b_bool : mg "bool" = none
  b_int : mg "int" = none
  b_str : mg "str" = none
  b_list : mg "list" = none
  b_len : mg "len" = none
  b_set : mg "set" = none
  b_max : mg "max" = none
  b_zip : mg "zip" = none
  g_PRIME : ∃ t, mg "PRIME" = some (.int 97 t)
  c_Table : TabT K mg CT
  c_Scheme : SchT K mg CS
  f_choices : TxtF K mg "choices" (top 9) ["count", "size"]
  f_is_lot : TxtF K mg "is_lot" (top 10) ["lot", "count"]
  f_apart : TxtF K mg "apart" (top 11) ["lot", "other"]
  f_joined : TxtF K mg "joined" (top 12) ["lot", "other"]
  f_rank : TxtF K mg "rank" (top 13) ["item"]
  f_ranked : TxtF K mg "ranked" (top 14) ["items"]
  f_inverse : TxtF K mg "inverse" (top 17) ["number"]
  f_reduced : TxtF K mg "reduced" (top 18) ["row", "basis"]
  f_pivot_of : TxtF K mg "pivot_of" (top 19) ["row"]
  f_independent_indexes : TxtF K mg "independent_indexes" (top 20) ["rows"]
  f_independent : TxtF K mg "independent" (top 21) ["rows"]
  f_minors : TxtF K mg "minors" (top 23) ["rows", "columns"]
  f_kept_list : TxtF K mg "kept_list" (top 25) ["scheme", "items"]
  f_first_fit : TxtF K mg "first_fit" (top 26) ["scheme", "items", "ask"]
  f_grow : TxtF K mg "grow" (top 28) ["items", "thing", "worth"]
  f_reduced_form : TxtF K mg "reduced_form" (top 32) ["rows"]
  f_contract : TxtF K mg "contract" (top 33) ["table", "lot"]
  f__law_cell : TxtF K mg "_law_cell" (top 35) ["script", "k"]
  f__law_draws : TxtF K mg "_law_draws" (top 36) ["cell", "limits"]
  f__law_tuples : TxtF K mg "_law_tuples" (top 37) ["count", "size"]
  f__law_free : TxtF K mg "_law_free" (top 38) ["rows", "width"]
  f__law_points : TxtF K mg "_law_points" (top 39) ["numbers", "columns"]
  f__law_numbers : TxtF K mg "_law_numbers" (top 40) ["things", "cell"]
  f__law_rows : TxtF K mg "_law_rows" (top 41) ["menu", "things", "columns", "script"]
  f__law_before : TxtF K mg "_law_before" (top 42) ["one", "other"]
  f__law_items : TxtF K mg "_law_items" (top 43) ["script", "lots", "most"]
  f__law_same : TxtF K mg "_law_same" (top 44) ["told", "due"]
  f__law_det : TxtF K mg "_law_det" (top 45) ["rows"]
  f__law_minors : TxtF K mg "_law_minors" (top 46) ["rows", "lot", "columns"]
  f__law_by_rank : TxtF K mg "_law_by_rank" (top 47) ["items"]
  f__law_kept : TxtF K mg "_law_kept" (top 48) ["rows", "columns", "order"]
  f__law_inverse : TxtF K mg "_law_inverse" (top 49) ["number"]
  f__law_contracted : TxtF K mg "_law_contracted" (top 50) ["rows", "thing", "columns"]
  f__law_refused : TxtF K mg "_law_refused" (top 51) ["table", "thing"]
  f__law_first : TxtF K mg "_law_first" (top 52) ["rows", "columns", "items", "ask"]
  f_law : TxtF K mg "law" (top 53) ["script"]
end K87
end
section
set_option Elab.async false
set_option linter.all false
set_option maxRecDepth 100000
/-! K1: lots, residues. -/
namespace K87
open PySem PySem.Spec PyProof.Rows L2 DL
variable {P : Program} {w : World} {K : PySem.W.Frag} {mg : Str → Option Value} {base : Heap} {CT CS CB : Addr}
local macro_rules | `(tactic| subst_eqs) => `(tactic| try simp only [wSeq, wNext, wFor, wRng1, wRng2, wRd, wSt, wC, gNm, gTp, gsNil, gsCons, wLc, wLc2, wSeqI, wPs, wYes, wIf, wIfS, wTru, wTest, wAnd, wOr, wNot, wAndV, wOrV, wNotV, wOp, wI0, wI, wIx, wUn, wNeg, wCatT, wCB, wCF, wOpF, wCatL, wRepL, wLen, wIntOf, wMM, wListOf, wTupOf, wSorted, wK, wCons, wNil, wPar, wNoPart, wPart, wEn, wEnN, wEnT, wZp, wInI, wIsN, wNotN, wDGet, wMeth, wMake, wFldC, wCon, wIsi,
  rdSl_st, rdSl_wk, rdSl_ow, rdSl_oT, stSl_st, stSl_wk, truD_bl, truD_int, truD_lst, truD_tup, truD_non, lenD_lst, lenD_tup, lenD_scr, walkD_lst, walkD_tup, seqD_lst, seqD_tup, seqD_scr, solid_int, solid_bl, solid_tup, solid_ins, solid_non, solid_str, isNon_non, isNon_lst, isNon_tup, isNon_int, isNon_bl, frz_ow0, frz_succ, frzS_st, frzS_wk, frzS_ow, frzS_oT, frzS_no,
  startD, startS, wipeD, List.set_cons_zero, List.set_cons_succ, List.getElem?_cons_zero, List.getElem?_cons_succ, List.length_cons, List.length_nil, List.cons_append, List.nil_append, List.map_cons, List.map_nil, List.replicate, Nat.reduceSub, Nat.reduceAdd, Option.some.injEq, Sl.st.injEq, Sl.wk.injEq, Sl.ow.injEq, Sl.oT.injEq, Sl.oI.injEq, D.int.injEq, D.lst.injEq, D.tup.injEq, D.bl.injEq, D.dT.injEq, D.ins.injEq, List.cons.injEq, exists_eq_left, exists_eq_left', exists_eq_right, exists_eq_right', exists_and_left, exists_and_right, and_assoc, decide_eq_true_eq, and_true, true_and, and_self, reduceIte, ite_true, ite_false, Bool.false_eq_true, reduceCtorEq, exists_false, false_and, and_false, exists_const, forall_const])

def tI (ns : List Int) : D := .tup (ns.map .int)
def lI (ns : List Int) : D := .lst (ns.map .int)
/-- where the next one may begin -/
def nxt (c : List Int) : Int := match c.getLast? with | some l => l + 1 | none => 0
def rgI (a b : Int) : List Int := (List.range (b - a).toNat).map fun i => a + ((i : Nat) : Int)
theorem rngD_rgI (a b : Int) : rngD a (b - a).toNat = (rgI a b).map .int := rngD_eq a _
theorem rngD_rgI0 (b : Int) : rngD 0 b.toNat = (rgI 0 b).map .int := by
  have := rngD_rgI 0 b
  rwa [Int.sub_zero] at this
theorem rgI_len (a b : Int) : (rgI a b).length = (b - a).toNat := by unfold rgI; rw [List.length_map, List.length_range]
theorem mem_rgI {a b x : Int} : x ∈ rgI a b ↔ a ≤ x ∧ x < b := by
  unfold rgI
  rw [List.mem_map]
  constructor
  · rintro ⟨i, hi, rfl⟩
    rw [List.mem_range] at hi
    omega
  · rintro ⟨h1, h2⟩
    exact ⟨(x - a).toNat, List.mem_range.mpr (by omega), by omega⟩
/-- all ascending size-tuples below count, as the program lists them -/
def chs (count : Int) : Nat → List (List Int)
  | 0 => [[]]
  | n + 1 => (chs count n).flatMap fun c => (rgI (nxt c) count).map fun x => c ++ [x]
theorem chs_in {count : Int} : ∀ {n : Nat} {c : List Int}, c ∈ chs count n → c.length = n ∧ ∀ x ∈ c, 0 ≤ x ∧ x < count
  | 0, c, h => by
    have : c = [] := by simpa [chs] using h
    subst this
    simp
  | n + 1, c, h => by
    simp only [chs, List.mem_flatMap, List.mem_map] at h
    obtain ⟨c', hc', x, hx, rfl⟩ := h
    obtain ⟨h1, h2⟩ := chs_in hc'
    rw [mem_rgI] at hx
    refine ⟨by simp [h1], fun y hy => ?_⟩
    rcases List.mem_append.mp hy with hy | hy
    · exact h2 y hy
    · have : y = x := by simpa using hy
      subst this
      refine ⟨?_, hx.2⟩
      unfold nxt at hx
      cases e : c'.getLast? with
      | none => rw [e] at hx; exact hx.1
      | some l =>
        rw [e] at hx
        have := (h2 l (List.mem_of_getLast? e)).1
        have h3 : l + 1 ≤ y := hx.1
        omega
/-- few enough -/
theorem chs_len {count : Int} (h0 : 0 ≤ count) (h8 : count ≤ 8) : ∀ n : Nat, (chs count n).length ≤ 8 ^ n
  | 0 => by simp [chs]
  | n + 1 => by
    have ih := chs_len h0 h8 n
    have gen : ∀ l : List (List Int), (∀ c ∈ l, 0 ≤ nxt c) → (l.flatMap fun c => (rgI (nxt c) count).map fun x => c ++ [x]).length ≤ 8 * l.length := by
      intro l
      induction l with
      | nil => intro _; simp
      | cons c l ih =>
        intro h
        rw [List.flatMap_cons, List.length_append, List.length_map, rgI_len, List.length_cons]
        have := ih fun c hc => h c (List.mem_cons_of_mem _ hc)
        have := h c List.mem_cons_self
        omega
    have := gen (chs count n) fun c hc => by
      obtain ⟨_, h2⟩ := chs_in hc
      unfold nxt
      cases e : c.getLast? with
      | none => exact Int.le_refl 0
      | some l =>
        have := (h2 l (List.mem_of_getLast? e)).1
        show 0 ≤ l + 1
        omega
    show ((chs count n).flatMap _).length ≤ _
    rw [Nat.pow_succ]
    omega
theorem nxt_ge {count : Int} {n : Nat} {c : List Int} (h : c ∈ chs count n) : 0 ≤ nxt c := by
  obtain ⟨_, h2⟩ := chs_in h
  unfold nxt
  cases e : c.getLast? with
  | none => exact Int.le_refl 0
  | some l =>
    have := (h2 l (List.mem_of_getLast? e)).1
    show 0 ≤ l + 1
    omega
theorem nxt_le {count : Int} (h0 : 0 ≤ count) {n : Nat} {c : List Int} (h : c ∈ chs count n) : nxt c ≤ count := by
  obtain ⟨_, h2⟩ := chs_in h
  unfold nxt
  cases e : c.getLast? with
  | none => exact h0
  | some l =>
    have := (h2 l (List.mem_of_getLast? e)).2
    show l + 1 ≤ count
    omega
theorem flat_len {α β γ : Type} (r : α → List β) (h : α → β → γ) : ∀ l : List α, (l.flatMap r).length = (l.flatMap fun c => (r c).map (h c)).length
  | [] => rfl
  | c :: l => by rw [List.flatMap_cons, List.flatMap_cons, List.length_append, List.length_append, List.length_map, flat_len r h l]
theorem pow8 : ∀ {n : Nat}, n ≤ 8 → 8 ^ n ≤ 16777216
  | n, h => Nat.le_trans (Nat.pow_le_pow_right (by decide) h) (by decide)
def g_choices : GD := fun ds Q => ∃ (count size : Int), ds = [.int count, .int size] ∧ 0 ≤ count ∧ count ≤ 8 ∧ 0 ≤ size ∧ size ≤ 8 ∧ Q (.lst ((chs count size.toNat).map tI))
theorem sc_choices : FnScope ["count", "size", "found", "_", "chosen", "x"] ["count", "size"] (defScope (top 9)) := ⟨rfl, rfl, rfl, by decide +kernel, rfl, by decide +kernel, by decide +kernel⟩
theorem u_choices (T : Txt K mg CT CS CB) : Use P w K mg base "choices" 2 [false, false] g_choices := by
  have S := sc_choices
  refine T.f_choices.use (k := 1) S rfl fun f cdv A outer s H E hr => ⟨_, _, (dss_cons (ds_set (i := 2) S.nd (DF.e (df_lst (da_st (de_tup da_nil) da_nil))))
      (dss_cons (ds_for PassesOwn.never rfl (di_rng1 rfl T.b_range (da_wk (dr 1) da_nil)) (dg_name (i := 3) S.nd) (dss_one (ds_lc2E (i := 2) (own := [("chosen", 4), ("x", 5)]) (vs1 := [5]) rfl S.nd (DIp.w (dip_nmK (K := K) 2)) (by kernel_rfl) (by decide) (fun _ _ _ _ _ => (dg_name (i := 4) S.nd)) (fun _ _ _ _ _ => dts_nil) (fun _ _ _ _ _ => (di_rng2 rfl T.b_range (da_wk (DE.w (de_if (dt_truK (K := K) (dr 4)) (de_op op_add lo_I0 (DE.w (de_ixK (K := K) (dr 4) (DE.w (de_neg (DE.w de_int))))) (DE.w de_int)) de_int)) (da_wk (dr 0) da_nil)))) (fun _ _ _ _ _ => (dg_name (i := 5) S.nd)) (fun _ _ _ _ _ => dts_nil) (fun _ _ _ _ _ => (de_op (op_catAK (K := K)) lo_catT (dr 4) (DE.w (de_tup (da_st (dv 5) da_nil))))))))
      (dss_one (ds_ret (dv 2))))), fun ds Q hl hg => ?_⟩
  obtain ⟨count, size, rfl, h0, h1, h5, h2, q⟩ := hg
  subst_eqs
  refine ⟨by unfold Rg; omega, ?_⟩
  rw [rngD_rgI0]
  refine forW_inv2 (α := Int) (S := Nat × Sl) D.int (fun s => [.wk (.int count), .wk (.int size), .st (.lst ((chs count s.1).map tI)), s.2, .no, .no]) (fun ys xs s => s.1 = ys.length ∧ (ys ++ xs).length = size.toNat) ?_ ?_ (rgI 0 size) [] (0, .no) ⟨rfl, by rw [List.nil_append, rgI_len]; omega⟩
  · rintro ys ⟨n, z⟩ ⟨h3, h4⟩
    subst_eqs
    have : n = size.toNat := by rw [← h4, List.append_nil]; exact h3
    rw [this]
    exact q
  · rintro ys x xs ⟨n, z⟩ J ⟨h3, h4⟩ hJ
    subst_eqs
    have hn : n + 1 ≤ 8 := by
      rw [List.length_append, List.length_cons] at h4
      have : n = ys.length := h3
      omega
    have hlen : ((chs count n).flatMap fun c => rgI (nxt c) count).length ≤ 16777216 := by
      rw [flat_len _ fun c x => c ++ [x]]
      exact Nat.le_trans (chs_len h0 h1 (n + 1)) (pow8 hn)
    refine lc2W_map (α := List Int) (β := Int) tI (fun c => rgI (nxt c) count) (fun _ => D.int) (fun c x => tI (c ++ [x])) (chs count n) 0 _ (le_size (by rw [Nat.zero_add]; exact hlen)) ?_ ?_
    · intro c hc K1 K2 h
      have h6 := nxt_ge hc
      have h7 := nxt_le h0 hc
      have hK : K1 [Sl.wk (D.int count), Sl.wk (D.int size), Sl.st (D.lst (List.map tI (chs count n))), Sl.st (D.int x), Sl.st (tI c), Sl.no] ((rgI (nxt c) count).map D.int) := by
        refine h _ fun y hy J1 J2 h8 => ?_
        have hc8 : c.length ≤ 8 := by have := (chs_in hc).1; omega
        unfold tI at *
        subst_eqs
        refine ⟨by rw [sizeLine_eq]; simp; omega, ?_⟩
        rw [List.map_append] at h8
        exact h8
      unfold tI at *
      rcases hc2 : c.getLast? with _ | l
      · have hcn : c = [] := List.getLast?_eq_none_iff.mp hc2
        subst hcn
        subst_eqs
        simp only [List.isEmpty_nil, Bool.not_true, Bool.false_eq_true, if_false]
        subst_eqs
        refine ⟨by unfold Rg; omega, by unfold Rg; omega, ?_⟩
        rw [rngD_rgI]
        exact hK
      · have hne : c ≠ [] := fun z => by rw [z] at hc2; cases hc2
        subst_eqs
        have e1 : (!(List.map D.int c).isEmpty) = true := by cases c with | nil => exact absurd rfl hne | cons _ _ => rfl
        have e2 : nxt c = l + 1 := by unfold nxt; rw [hc2]
        rw [if_pos e1, DL.atI_last, List.getLast?_map, hc2]
        refine ⟨_, rfl, l, rfl, ?_⟩
        subst_eqs
        rw [e2] at hK h6 h7
        refine ⟨by unfold Rg; omega, by unfold Rg; omega, ?_⟩
        rw [rngD_rgI]
        exact hK
    · have h9 := hJ (n + 1, .st (.int x)) ⟨by rw [List.length_append]; exact congrArg (· + 1) h3, by rw [List.append_assoc]; exact h4⟩
      have e : List.map tI (chs count (n + 1)) = List.flatMap (fun c => List.map (fun x => tI (c ++ [x])) (rgI (nxt c) count)) (chs count n) := by
        show List.map tI ((chs count n).flatMap _) = _
        rw [List.map_flatMap]
        congr 1
        funext c
        rw [List.map_map]
        rfl
      rw [← e]
      exact h9
/-! ### is_lot -/
def lotF (count : Int) : Int → List Int → Bool
  | _, [] => true
  | least, x :: xs => if x < least ∨ count ≤ x then false else lotF count (x + 1) xs
def g_is_lot : GD := fun ds Q => ∃ (lot : List Int) (count : Int), ds = [tI lot, .int count] ∧ Q (.bl (lotF count 0 lot))
theorem sc_is_lot : FnScope ["lot", "count", "least", "x"] ["lot", "count"] (defScope (top 10)) := ⟨rfl, rfl, rfl, by decide +kernel, rfl, by decide +kernel, by decide +kernel⟩
theorem u_is_lot (T : Txt K mg CT CS CB) : Use P w K mg base "is_lot" 2 [false, false] g_is_lot := by
  have S := sc_is_lot
  refine T.f_is_lot.use (k := 1) S rfl fun f cdv A outer s H E hr => ⟨_, _, (dss_cons (ds_set (i := 2) S.nd de_int)
      (dss_cons (ds_for PassesOwn.never rfl (dip_nmK (K := K) 0) (dg_name (i := 3) S.nd) (dss_cons (ds_if (DTW.t (dw_or (dt_cmp op_lt lo_B0 (dr 3) (dr 2) (nomark _)) (dw_or1 (dt_cmp op_ge lo_B0 (dr 3) (dr 1) (nomark _))))) (dss_one (ds_ret de_bl)) dss_nil)
      (dss_one (ds_set (i := 2) S.nd (de_op op_add lo_I0 (dr 3) (DE.w de_int))))))
      (dss_one (ds_ret de_bl)))), fun ds Q hl hg => ?_⟩
  obtain ⟨lot, count, rfl, q⟩ := hg
  unfold tI
  subst_eqs
  refine forW_inv (α := Int) (S := Int × Sl) D.int (fun s => [.wk (.tup (lot.map .int)), .wk (.int count), .st (.int s.1), s.2]) (fun xs s => lotF count 0 lot = lotF count s.1 xs) ?_ ?_ lot (0, .no) rfl
  · rintro ⟨l, z⟩ h
    subst_eqs
    rw [h] at q
    exact q
  · rintro x xs ⟨l, z⟩ J h hJ
    subst_eqs
    have h2 : lotF count 0 lot = if x < l ∨ count ≤ x then false else lotF count (x + 1) xs := h
    by_cases c1 : x < l
    · rw [if_pos c1]
      rw [h2, if_pos (.inl c1)] at q
      exact q
    · rw [if_neg c1]
      by_cases c2 : count ≤ x
      · rw [if_pos c2]
        rw [h2, if_pos (.inr c2)] at q
        exact q
      · rw [if_neg c2]
        exact hJ (x + 1, _) (h2.trans (if_neg fun z => z.elim c1 c2))
end K87
end
section
set_option Elab.async false
set_option linter.all false
set_option maxRecDepth 100000
/-! K2: residues. -/
namespace K87
open PySem PySem.Spec PyProof.Rows L2 DL
variable {P : Program} {w : World} {K : PySem.W.Frag} {mg : Str → Option Value} {base : Heap} {CT CS CB : Addr}
local macro_rules | `(tactic| subst_eqs) => `(tactic| try simp only [wSeq, wNext, wFor, wRng1, wRng2, wRd, wSt, wC, gNm, gTp, gsNil, gsCons, wLc, wLc2, wSeqI, wPs, wYes, wIf, wIfS, wTru, wTest, wAnd, wOr, wNot, wAndV, wOrV, wNotV, wOp, wI0, wI, wIx, wUn, wNeg, wCatT, wCB, wCF, wOpF, wCatL, wRepL, wLen, wIntOf, wMM, wListOf, wTupOf, wSorted, wK, wCons, wNil, wPar, wNoPart, wPart, wEn, wEnN, wEnT, wZp, wInI, wIsN, wNotN, wDGet, wMeth, wMake, wFldC, wCon, wIsi,
  rdSl_st, rdSl_wk, rdSl_ow, rdSl_oT, stSl_st, stSl_wk, truD_bl, truD_int, truD_lst, truD_tup, truD_non, lenD_lst, lenD_tup, lenD_scr, walkD_lst, walkD_tup, seqD_lst, seqD_tup, seqD_scr, solid_int, solid_bl, solid_tup, solid_ins, solid_non, solid_str, isNon_non, isNon_lst, isNon_tup, isNon_int, isNon_bl, frz_ow0, frz_succ, frzS_st, frzS_wk, frzS_ow, frzS_oT, frzS_no,
  startD, startS, wipeD, List.set_cons_zero, List.set_cons_succ, List.getElem?_cons_zero, List.getElem?_cons_succ, List.length_cons, List.length_nil, List.cons_append, List.nil_append, List.map_cons, List.map_nil, List.replicate, Nat.reduceSub, Nat.reduceAdd, Option.some.injEq, Sl.st.injEq, Sl.wk.injEq, Sl.ow.injEq, Sl.oT.injEq, Sl.oI.injEq, D.int.injEq, D.lst.injEq, D.tup.injEq, D.bl.injEq, D.dT.injEq, D.ins.injEq, List.cons.injEq, exists_eq_left, exists_eq_left', exists_eq_right, exists_eq_right', exists_and_left, exists_and_right, and_assoc, decide_eq_true_eq, and_true, true_and, and_self, reduceIte, ite_true, ite_false, Bool.false_eq_true, reduceCtorEq, exists_false, false_and, and_false, exists_const, forall_const])

/-! ### inverse -/
theorem inv_fin : ∀ a : Fin 97, a ≠ 0 → ∃ b : Fin 97, a * b = 1 := by decide +kernel
theorem inv_int {a : Int} (h0 : 0 < a) (h1 : a < 97) : ∃ b : Int, 0 ≤ b ∧ b < 97 ∧ (a * b) % 97 = 1 := by
  obtain ⟨b, hb⟩ := inv_fin ⟨a.toNat, by omega⟩ (fun z => by
    have := congrArg Fin.val z
    simp at this
    omega)
  have e := congrArg Fin.val hb
  rw [Fin.val_mul] at e
  refine ⟨b.val, by omega, by have := b.isLt; omega, ?_⟩
  have e2 : (a.toNat : Int) = a := Int.toNat_of_nonneg (by omega)
  have e3 : ((a.toNat * b.val % 97 : Nat) : Int) = 1 := by rw [e]; rfl
  rw [Int.natCast_emod, Int.natCast_mul, e2] at e3
  exact e3
/-- the inverse modulo 97, by search -/
def invM (n : Int) : Int := (((List.range 97).find? fun v => (n * (v : Nat)) % 97 == 1).getD 0 : Nat)
theorem inv_uniq {n v u : Int} (h1 : 0 ≤ v) (h2 : v < 97) (h3 : (n * v) % 97 = 1) (g1 : 0 ≤ u) (g2 : u < 97) (g3 : (n * u) % 97 = 1) : v = u := by
  have e1 : (n * v) = 97 * (n * v / 97) + 1 := by omega
  have e2 : (n * u) = 97 * (n * u / 97) + 1 := by omega
  generalize n * v / 97 = j at e1
  generalize n * u / 97 = k at e2
  have : v - u = 97 * (j * u - k * v) := by
    have a1 : n * v * u = (97 * j + 1) * u := by rw [e1]
    have a2 : n * u * v = (97 * k + 1) * v := by rw [e2]
    grind
  omega
theorem invM_of {n v : Int} (h1 : 0 ≤ v) (h2 : v < 97) (h3 : (n * v) % 97 = 1) : invM n = v := by
  unfold invM
  cases e : (List.range 97).find? fun v => (n * (v : Nat)) % 97 == 1 with
  | none =>
    have := List.find?_eq_none.mp e v.toNat (List.mem_range.mpr (by omega))
    rw [Int.toNat_of_nonneg h1] at this
    exact absurd (by simp [h3]) this
  | some u =>
    have h4 := List.find?_some e
    have h5 := List.mem_range.mp (List.mem_of_find?_eq_some e)
    exact inv_uniq (by simp) (by simp; omega) (by simpa using h4) h1 h2 h3
theorem invM_ok {n : Int} (h : n % 97 ≠ 0) : 0 ≤ invM n ∧ invM n < 97 ∧ (n * invM n) % 97 = 1 := by
  obtain ⟨b, h0, h1, h2⟩ := inv_int (a := n % 97) (by omega) (by omega)
  have e : (n * b) % 97 = 1 := by rw [Int.mul_emod]; rw [Int.mul_emod] at h2; simpa using h2
  rw [invM_of h0 h1 e]
  exact ⟨h0, h1, e⟩
def g_inverse : GD := fun ds Q => ∃ n : Int, ds = [.int n] ∧ n % 97 ≠ 0 ∧ Q (.int (invM n))
structure InvI (n low high lf hf : Int) : Prop where
  l1 : 1 ≤ low
  lh : low < high
  h97 : high ≤ 97
  bz : ∃ u v : Int, u * low + v * high = 1
  cl : ∃ k : Int, n * lf = low + 97 * k
  ch : ∃ k : Int, n * hf = high + 97 * k
theorem InvI.step {n low high lf hf : Int} (x : InvI n low high lf hf) (h : 1 < low) : InvI n (high - high / low * low) low (hf - high / low * lf) lf := by
  obtain ⟨l1, lh, h97, ⟨u, v, bz⟩, ⟨k, cl⟩, ⟨j, ch⟩⟩ := x
  have e : high - high / low * low = high % low := by
    have := Int.mul_ediv_add_emod high low
    rw [Int.mul_comm low] at this
    omega
  have h0 : 0 ≤ high % low := Int.emod_nonneg _ (by omega)
  have hl : high % low < low := Int.emod_lt_of_pos _ (by omega)
  refine ⟨?_, by rw [e]; exact hl, by omega, ⟨v, u + v * (high / low), ?_⟩, ⟨j - high / low * k, ?_⟩, ⟨k, cl⟩⟩
  · rw [e]
    by_cases z : high % low = 0
    · exfalso
      have q : (u * low + v * high) % low = 0 := by
        rw [Int.add_emod, Int.mul_emod_left, Int.mul_emod v, z, Int.mul_zero]
        simp
      rw [bz, Int.emod_eq_of_lt (by decide) h] at q
      exact absurd q (by decide)
    · omega
  · grind
  · grind
theorem sc_inverse : FnScope ["number", "low", "high", "low_factor", "high_factor", "quotient"] ["number"] (defScope (top 17)) := ⟨rfl, rfl, rfl, by decide +kernel, rfl, by decide +kernel, by decide +kernel⟩
theorem u_inverse (T : Txt K mg CT CS CB) : Use P w K mg base "inverse" 2 [false] g_inverse := by
  have S := sc_inverse
  refine T.f_inverse.use (k := 1) S rfl fun f cdv A outer s H E hr => ⟨_, _, (dss_cons (ds_set (i := 1) S.nd (de_op op_mod lo_I (dr 0) (DE.w (de_gint rfl T.g_PRIME))))
      (dss_cons (ds_if (dt_cmp op_eq lo_eqI (dr 1) (DE.w de_int) (nomark _)) dss_never dss_nil)
      (dss_cons (ds_set (i := 2) S.nd (de_gint rfl T.g_PRIME))
      (dss_cons (ds_set (i := 3) S.nd de_int)
      (dss_cons (ds_set (i := 4) S.nd de_int)
      (dss_cons (ds_while PassesOwn.never (dt_cmp op_gt lo_B0 (dr 1) (DE.w de_int) (nomark _)) (dss_cons (ds_set (i := 5) S.nd (de_op op_fdiv lo_I (dr 2) (dr 1)))
      (dss_cons (ds_par (i := 2) (j := 1) rfl S.nd (da_st (dv 1) (da_st (de_op op_sub lo_I0 (dr 2) (DE.w (de_op op_mul lo_I (dr 5) (dr 1)))) da_nil)))
      (dss_one (ds_par (i := 4) (j := 3) rfl S.nd (da_st (dv 3) (da_st (de_op op_sub lo_I0 (dr 4) (DE.w (de_op op_mul lo_I (dr 5) (dr 3)))) da_nil)))))))
      (dss_one (ds_ret (de_op op_mod lo_I (dr 3) (DE.w (de_gint rfl T.g_PRIME))))))))))), fun ds Q hl hg => ?_⟩
  obtain ⟨n, rfl, hn, q⟩ := hg
  subst_eqs
  refine ⟨by decide, ?_⟩
  have hn2 : ¬ n % 97 = 0 := hn
  rw [if_neg (by simpa using hn2)]
  refine while_inv (S := Int × Int × Int × Int × Sl) (fun s => [.wk (.int n), .st (.int s.1), .st (.int s.2.1), .st (.int s.2.2.1), .st (.int s.2.2.2.1), s.2.2.2.2]) (fun s => InvI n s.1 s.2.1 s.2.2.1 s.2.2.2.1) (fun s => s.1.toNat) ?_ (n % 97, 97, 1, 0, .no) ?_
  · rintro ⟨low, high, lf, hf, z⟩ J x hJ
    subst_eqs
    have x : InvI n low high lf hf := x
    by_cases c : 1 < low
    · have y := x.step c
      have hq : high / low ≤ 97 ∧ 0 ≤ high / low := by
        have h1 := x.h97
        have h2 := x.lh
        refine ⟨?_, Int.ediv_nonneg (by omega) (by omega)⟩
        have : high / low ≤ high := Int.ediv_le_self _ (by omega)
        omega
      have l1 := x.l1
      have lh := x.lh
      have h97 := x.h97
      simp only [c, if_true, decide_true]
      subst_eqs
      refine ⟨⟨by omega, by omega⟩, ⟨.inl ⟨by omega, by omega⟩, .inl ⟨by omega, by omega⟩, ?_⟩⟩
      refine hJ (_, low, _, lf, _) y ?_
      have := y.lh
      show (high - high / low * low).toNat < low.toNat
      omega
    · have hl : low = 1 := by have := x.l1; omega
      simp only [c, if_false, decide_false, Bool.false_eq_true]
      refine ⟨by decide, ?_⟩
      obtain ⟨k, ck⟩ := x.cl
      have e : invM n = lf % 97 := by
        refine invM_of (Int.emod_nonneg _ (by decide)) (Int.emod_lt_of_pos _ (by decide)) ?_
        rw [Int.mul_emod, Int.emod_emod_of_dvd _ (Int.dvd_refl 97), ← Int.mul_emod, ck, hl]
        omega
      rw [← e]
      exact q
  · obtain ⟨b, h0, h1, h2⟩ := inv_int (a := n % 97) (by omega) (by omega)
    exact ⟨by show 1 ≤ n % 97; omega, by show n % 97 < 97; omega, Int.le_refl 97, ⟨b, -(n % 97 * b / 97), by show b * (n % 97) + -(n % 97 * b / 97) * 97 = 1; rw [Int.mul_comm b]; omega⟩, ⟨n / 97, by show n * 1 = n % 97 + 97 * (n / 97); omega⟩, ⟨-1, by show n * 0 = 97 + 97 * -1; omega⟩⟩
end K87
end
section
set_option Elab.async false
set_option linter.all false
set_option maxRecDepth 100000
/-! K3: clearing. -/
namespace K87
open PySem PySem.Spec PyProof.Rows L2 DL
variable {P : Program} {w : World} {K : PySem.W.Frag} {mg : Str → Option Value} {base : Heap} {CT CS CB : Addr}
local macro_rules | `(tactic| subst_eqs) => `(tactic| try simp only [wSeq, wNext, wFor, wRng1, wRng2, wRd, wSt, wC, gNm, gTp, gsNil, gsCons, wLc, wLc2, wSeqI, wPs, wYes, wIf, wIfS, wTru, wTest, wAnd, wOr, wNot, wAndV, wOrV, wNotV, wOp, wI0, wI, wIx, wUn, wNeg, wCatT, wCB, wCF, wOpF, wCatL, wRepL, wLen, wIntOf, wMM, wListOf, wTupOf, wSorted, wK, wCons, wNil, wPar, wNoPart, wPart, wEn, wEnN, wEnT, wZp, wInI, wIsN, wNotN, wDGet, wMeth, wMake, wFldC, wCon, wIsi,
  rdSl_st, rdSl_wk, rdSl_ow, rdSl_oT, stSl_st, stSl_wk, truD_bl, truD_int, truD_lst, truD_tup, truD_non, lenD_lst, lenD_tup, lenD_scr, walkD_lst, walkD_tup, seqD_lst, seqD_tup, seqD_scr, solid_int, solid_bl, solid_tup, solid_ins, solid_non, solid_str, isNon_non, isNon_lst, isNon_tup, isNon_int, isNon_bl, frz_ow0, frz_succ, frzS_st, frzS_wk, frzS_ow, frzS_oT, frzS_no,
  startD, startS, wipeD, List.set_cons_zero, List.set_cons_succ, List.getElem?_cons_zero, List.getElem?_cons_succ, List.length_cons, List.length_nil, List.cons_append, List.nil_append, List.map_cons, List.map_nil, List.replicate, Nat.reduceSub, Nat.reduceAdd, Option.some.injEq, Sl.st.injEq, Sl.wk.injEq, Sl.ow.injEq, Sl.oT.injEq, Sl.oI.injEq, D.int.injEq, D.lst.injEq, D.tup.injEq, D.bl.injEq, D.dT.injEq, D.ins.injEq, List.cons.injEq, exists_eq_left, exists_eq_left', exists_eq_right, exists_eq_right', exists_and_left, exists_and_right, and_assoc, decide_eq_true_eq, and_true, true_and, and_self, reduceIte, ite_true, ite_false, Bool.false_eq_true, reduceCtorEq, exists_false, false_and, and_false, exists_const, forall_const])

abbrev Rw := List Int
/-- numbers from 0 to 96 -/
def Res (r : Rw) : Prop := ∀ a ∈ r, 0 ≤ a ∧ a < 97
def bD (b : Int × Rw) : D := .tup [.int b.1, lI b.2]
theorem zpD_int : ∀ a b : Rw, zpD (a.map .int) (b.map .int) = (a.zip b).map fun p => .tup [.int p.1, .int p.2]
  | [], _ => rfl
  | _ :: _, [] => rfl
  | x :: a, y :: b => by
    show D.tup [.int x, .int y] :: zpD (a.map .int) (b.map .int) = _
    rw [zpD_int a b]
    rfl
def enL {α : Type} : Nat → List α → List (Nat × α)
  | _, [] => []
  | i, x :: xs => (i, x) :: enL (i + 1) xs
theorem enD_map {α : Type} (g : α → D) : ∀ (xs : List α) (i : Nat), enD i (xs.map g) = (enL i xs).map fun p => .tup [.int (p.1 : Nat), g p.2]
  | [], _ => rfl
  | x :: xs, i => by
    show D.tup [.int (i : Nat), g x] :: enD (i + 1) (xs.map g) = _
    rw [enD_map g xs (i + 1)]
    rfl
/-- one step of clearing -/
def clr (rest : Rw) (b : Int × Rw) : Rw := if rest.getD b.1.toNat 0 ≠ 0 then (rest.zip b.2).map fun p => (p.1 - rest.getD b.1.toNat 0 * p.2) % 97 else rest
def redM (row : Rw) (basis : List (Int × Rw)) : Rw := basis.foldl clr (row.map (· % 97))
/-- a basis of rows of m numbers -/
def BasOk (m : Nat) (basis : List (Int × Rw)) : Prop := ∀ b ∈ basis, 0 ≤ b.1 ∧ b.1 < m ∧ b.2.length = m
theorem clr_len {m : Nat} {rest : Rw} {b : Int × Rw} (h : rest.length = m) (hb : b.2.length = m) : (clr rest b).length = m := by
  unfold clr
  by_cases c : rest.getD b.1.toNat 0 ≠ 0
  · rw [if_pos c, List.length_map, List.length_zip, h, hb, Nat.min_self]
  · rw [if_neg c]; exact h
theorem clr_res {rest : Rw} {b : Int × Rw} (h : Res rest) : Res (clr rest b) := by
  unfold clr
  by_cases c : rest.getD b.1.toNat 0 ≠ 0
  · rw [if_pos c]
    intro a ha
    obtain ⟨p, _, rfl⟩ := List.mem_map.mp ha
    exact ⟨Int.emod_nonneg _ (by decide), Int.emod_lt_of_pos _ (by decide)⟩
  · rw [if_neg c]; exact h
theorem res_mod (row : Rw) : Res (row.map (· % 97)) := fun a ha => by
  obtain ⟨p, _, rfl⟩ := List.mem_map.mp ha
  exact ⟨Int.emod_nonneg _ (by decide), Int.emod_lt_of_pos _ (by decide)⟩
theorem fold_clr {m : Nat} : ∀ (basis : List (Int × Rw)) (rest : Rw), BasOk m basis → rest.length = m → Res rest → (basis.foldl clr rest).length = m ∧ Res (basis.foldl clr rest)
  | [], rest, _, h, r => ⟨h, r⟩
  | b :: basis, rest, hb, h, r => fold_clr basis _ (fun c hc => hb c (List.mem_cons_of_mem _ hc)) (clr_len h (hb b List.mem_cons_self).2.2) (clr_res r)
theorem redM_ok {m : Nat} {row : Rw} {basis : List (Int × Rw)} (hb : BasOk m basis) (h : row.length = m) : (redM row basis).length = m ∧ Res (redM row basis) :=
  fold_clr basis _ hb (by rw [List.length_map]; exact h) (res_mod row)
theorem res_get {r : Rw} (h : Res r) (i : Nat) : 0 ≤ r.getD i 0 ∧ r.getD i 0 < 97 := by
  rw [List.getD_eq_getElem?_getD]
  cases e : r[i]? with
  | none => exact ⟨Int.le_refl 0, by decide⟩
  | some a => exact h a (List.mem_of_getElem? e)
def g_reduced : GD := fun ds Q => ∃ (m : Nat) (row : Rw) (basis : List (Int × Rw)), ds = [lI row, .lst (basis.map bD)] ∧ m ≤ 100000 ∧ row.length = m ∧ BasOk m basis ∧ Q (lI (redM row basis))
theorem get_at {r : Rw} {p : Int} (h0 : 0 ≤ p) (h1 : p < r.length) : atI (r.map D.int) p = some (.int (r.getD p.toNat 0)) := by
  rw [atI_of h0, List.getElem?_map, List.getD_eq_getElem?_getD, List.getElem?_eq_getElem (by omega)]
  rfl
theorem sc_reduced : FnScope ["row", "basis", "rest", "a", "pivot", "basis_row", "factor", "b"] ["row", "basis"] (defScope (top 18)) := ⟨rfl, rfl, rfl, by decide +kernel, rfl, by decide +kernel, by decide +kernel⟩
theorem u_reduced (T : Txt K mg CT CS CB) : Use P w K mg base "reduced" 2 [false, false] g_reduced := by
  have S := sc_reduced
  refine T.f_reduced.use (k := 1) S rfl fun f cdv A outer s H E hr => ⟨_, _, (dss_cons (ds_lcE (i := 2) (own := [("a", 3)]) rfl S.nd (DIp.w (dip_nmK (K := K) 0)) (by kernel_rfl) (fun _ _ _ _ _ => (dg_name (i := 3) S.nd)) (fun _ _ _ _ _ => dts_nil) (fun _ _ _ _ _ => (de_op op_mod lo_I (dr 3) (DE.w (de_gint rfl T.g_PRIME)))))
      (dss_cons (ds_for PassesOwn.never rfl (dip_nmK (K := K) 1) (dg_tupK (K := K) (n := 2) rfl (dgs_cons (dg_name (i := 4) S.nd) (dgs_cons (dg_name (i := 5) S.nd) dgs_nil))) (dss_cons (ds_set (i := 6) S.nd (de_ixK (K := K) (dr 2) (dr 4)))
      (dss_one (ds_if (dt_cmp op_ne lo_neI (dr 6) (DE.w de_int) (nomark _)) (dss_one (ds_lcE (i := 2) (own := [("a", 3), ("b", 7)]) rfl S.nd (diw_zpK (K := K) rfl T.b_zip (da_wk (dr 2) (da_wk (dr 5) da_nil))) (by kernel_rfl) (fun _ _ _ _ _ => (dg_tupK (K := K) (n := 2) rfl (dgs_cons (dg_name (i := 3) S.nd) (dgs_cons (dg_name (i := 7) S.nd) dgs_nil)))) (fun _ _ _ _ _ => dts_nil) (fun _ _ _ _ _ => (de_op op_mod lo_I (DE.w (de_op op_sub lo_I0 (dr 3) (DE.w (de_op op_mul lo_I (dr 6) (dr 7))))) (DE.w (de_gint rfl T.g_PRIME)))))) dss_nil))))
      (dss_one (ds_ret (dv 2))))), fun ds Q hl hg => ?_⟩
  obtain ⟨m, row, basis, rfl, hm, hrow, hb, q⟩ := hg
  unfold lI at *
  subst_eqs
  refine lcW_map (α := Int) D.int (fun a => D.int (a % 97)) row 0 _ (le_size (by omega)) ?_ ?_
  · intro x hx K1 K2 h
    subst_eqs
    exact ⟨by decide, h⟩
  · have e0 : row.map (fun a => D.int (a % 97)) = (row.map (· % 97)).map D.int := by rw [List.map_map]; rfl
    rw [e0]
    refine forW_inv (α := Int × Rw) (S := Rw × Sl × Sl × Sl) bD (fun s => [.wk (.lst (row.map .int)), .wk (.lst (basis.map bD)), .st (.lst (s.1.map .int)), .no, s.2.1, s.2.2.1, s.2.2.2, .no]) (fun xs s => redM row basis = xs.foldl clr s.1 ∧ s.1.length = m ∧ Res s.1 ∧ BasOk m xs) ?_ ?_ basis (row.map (· % 97), .no, .no, .no) ⟨rfl, by rw [List.length_map]; exact hrow, res_mod row, hb⟩
    · rintro ⟨rest, z⟩ ⟨h1, _⟩
      have h1 : redM row basis = rest := h1
      subst_eqs
      rw [← h1]
      exact q
    · rintro ⟨p, brow⟩ xs ⟨rest, z1, z2, z3⟩ J ⟨h1, h2, h3, h4⟩ hJ
      obtain ⟨hp0, hp1, hbl⟩ := h4 (p, brow) List.mem_cons_self
      have h2 : rest.length = m := h2
      have hp1 : p < m := hp1
      have hbl : brow.length = m := hbl
      unfold bD lI
      subst_eqs
      rw [get_at (r := rest) hp0 (by omega)]
      refine ⟨_, rfl, ?_⟩
      subst_eqs
      have hJ2 := hJ (clr rest (p, brow), .st (.int p), .st (.lst (brow.map .int)), .st (.int (rest.getD p.toNat 0))) ⟨h1, clr_len h2 hbl, clr_res h3, fun c hc => h4 c (List.mem_cons_of_mem _ hc)⟩
      by_cases c : rest.getD p.toNat 0 = 0
      · have e : clr rest (p, brow) = rest := by unfold clr; rw [if_neg (by simpa using c)]
        rw [e] at hJ2
        simp only [c] at hJ2 ⊢
        exact hJ2
      · have e : clr rest (p, brow) = (rest.zip brow).map fun q => (q.1 - rest.getD p.toNat 0 * q.2) % 97 := by unfold clr; rw [if_pos c]
        rw [e] at hJ2
        simp only [c, decide_false, Bool.not_false, if_true]
        subst_eqs
        rw [zpD_int]
        have r3 : 0 ≤ rest.getD p.toNat 0 ∧ rest.getD p.toNat 0 < 97 := res_get h3 p.toNat
        refine lcW_map (α := Int × Int) (fun q => .tup [.int q.1, .int q.2]) (fun q => D.int ((q.1 - rest.getD p.toNat 0 * q.2) % 97)) (rest.zip brow) 0 _ (le_size (by rw [List.length_zip]; omega)) ?_ ?_
        · rintro ⟨a, b⟩ _ K1 K2 h
          subst_eqs
          exact ⟨.inl ⟨by omega, by omega⟩, by decide, h⟩
        · rw [List.map_map] at hJ2
          exact hJ2
/-! ### pivot_of -/
def pvF : Nat → Rw → Int
  | _, [] => -1
  | k, x :: xs => if x ≠ 0 then (k : Nat) else pvF (k + 1) xs
abbrev pvM (r : Rw) : Int := pvF 0 r
theorem pvF_spec : ∀ (r : Rw) (k : Nat), (pvF k r = -1 ∧ ∀ a ∈ r, a = 0) ∨ ∃ i : Nat, pvF k r = (k + i : Nat) ∧ i < r.length ∧ r.getD i 0 ≠ 0 ∧ ∀ j < i, r.getD j 0 = 0
  | [], k => .inl ⟨rfl, fun a h => nomatch h⟩
  | x :: xs, k => by
    unfold pvF
    by_cases c : x = 0
    · rw [if_neg (by simpa using c)]
      rcases pvF_spec xs (k + 1) with ⟨h1, h2⟩ | ⟨i, h1, h2, h3, h4⟩
      · refine .inl ⟨h1, fun a ha => ?_⟩
        rcases List.mem_cons.mp ha with e | e
        · rw [e]; exact c
        · exact h2 a e
      · refine .inr ⟨i + 1, by rw [h1]; congr 1; omega, by simpa using h2, by simpa using h3, fun j hj => ?_⟩
        cases j with
        | zero => simpa using c
        | succ j => simpa using h4 j (by omega)
    · rw [if_pos c]
      exact .inr ⟨0, rfl, by simp, by simpa using c, fun j hj => absurd hj (Nat.not_lt_zero j)⟩
theorem pvM_spec (r : Rw) : (pvM r = -1 ∧ ∀ a ∈ r, a = 0) ∨ ∃ i : Nat, pvM r = (i : Nat) ∧ i < r.length ∧ r.getD i 0 ≠ 0 ∧ ∀ j < i, r.getD j 0 = 0 := by
  rcases pvF_spec r 0 with h | ⟨i, h1, h2⟩
  · exact .inl h
  · exact .inr ⟨i, by rw [show pvM r = pvF 0 r from rfl, h1, Nat.zero_add], h2⟩
def g_pivot_of : GD := fun ds Q => ∃ (row : Rw), ds = [lI row] ∧ Q (.int (pvM row))
theorem sc_pivot_of : FnScope ["row", "column", "number"] ["row"] (defScope (top 19)) := ⟨rfl, rfl, rfl, by decide +kernel, rfl, by decide +kernel, by decide +kernel⟩
theorem u_pivot_of (T : Txt K mg CT CS CB) : Use P w K mg base "pivot_of" 2 [false] g_pivot_of := by
  have S := sc_pivot_of
  refine T.f_pivot_of.use (k := 1) S rfl fun f cdv A outer s H E hr => ⟨_, _, (dss_cons (ds_for PassesOwn.never rfl (dip_enK (K := K) 0 rfl T.b_enumerate) (dg_tupK (K := K) (n := 2) rfl (dgs_cons (dg_name (i := 1) S.nd) (dgs_cons (dg_name (i := 2) S.nd) dgs_nil))) (dss_one (ds_if (dt_cmp op_ne lo_neI (dr 2) (DE.w de_int) (nomark _)) (dss_one (ds_ret (dv 1))) dss_nil)))
      (dss_one (ds_ret (de_neg (DE.w de_int))))), fun ds Q hl hg => ?_⟩
  obtain ⟨row, rfl, q⟩ := hg
  unfold lI at *
  subst_eqs
  rw [enD_map]
  refine forW_inv (α := Nat × Int) (S := Sl × Sl) (fun p => .tup [.int (p.1 : Nat), .int p.2]) (fun s => [.wk (.lst (row.map .int)), s.1, s.2]) (fun xs s => ∃ k r, xs = enL k r ∧ pvM row = pvF k r) ?_ ?_ (enL 0 row) (.no, .no) ⟨0, row, rfl, rfl⟩
  · rintro ⟨z1, z2⟩ ⟨k, r, h1, h2⟩
    cases r with
    | cons _ _ => cases h1
    | nil =>
      subst_eqs
      rw [h2] at q
      exact q
  · rintro ⟨i, x⟩ xs ⟨z1, z2⟩ J ⟨k, r, h1, h2⟩ hJ
    cases r with
    | nil => cases h1
    | cons y r =>
      cases h1
      subst_eqs
      have h3 : pvM row = if x ≠ 0 then (i : Int) else pvF (i + 1) r := h2
      by_cases c : x = 0
      · rw [if_neg (by simpa using c)] at h3
        simp only [c]
        have := hJ (.st (.int (i : Nat)), .st (.int x)) ⟨i + 1, r, rfl, h3⟩
        simp only [c] at this
        exact this
      · rw [if_pos c] at h3
        rw [h3] at q
        simp only [c, decide_false, Bool.not_false, if_true]
        exact q

/-! ### independent_indexes -/
def nrm (p : Int) (rest : Rw) : Rw := rest.map fun a => (invM (rest.getD p.toNat 0) * a) % 97
/-- basis and indexes behind one row more -/
def idxS (s : List (Int × Rw) × List Int) (q : Nat × Rw) : List (Int × Rw) × List Int :=
  if 0 ≤ pvM (redM q.2 s.1) then (s.1 ++ [(pvM (redM q.2 s.1), nrm (pvM (redM q.2 s.1)) (redM q.2 s.1))], s.2 ++ [(q.1 : Int)]) else s
def idxM (rows : List Rw) : List (Int × Rw) × List Int := (enL 0 rows).foldl idxS ([], [])
def rwsD (rows : List Rw) : D := .lst (rows.map lI)
def AllLen (m : Nat) (rows : List Rw) : Prop := ∀ r ∈ rows, r.length = m
theorem nrm_len {p : Int} {r : Rw} : (nrm p r).length = r.length := by unfold nrm; rw [List.length_map]
theorem idxS_ok {m : Nat} {s : List (Int × Rw) × List Int} {q : Nat × Rw} (hb : BasOk m s.1) (hq : q.2.length = m) : BasOk m (idxS s q).1 := by
  unfold idxS
  by_cases c : 0 ≤ pvM (redM q.2 s.1)
  · rw [if_pos c]
    intro b hbm
    rcases List.mem_append.mp hbm with h | h
    · exact hb b h
    · rw [List.mem_singleton.mp h]
      obtain ⟨l1, l2⟩ := redM_ok hb hq
      rcases pvM_spec (redM q.2 s.1) with ⟨z, _⟩ | ⟨i, z1, z2, _⟩
      · rw [z] at c; exact absurd c (by decide)
      · refine ⟨c, ?_, by rw [nrm_len]; exact l1⟩
        show pvM (redM q.2 s.1) < m
        rw [z1]
        omega
  · rw [if_neg c]; exact hb
def g_independent_indexes : GD := fun ds Q => ∃ (m : Nat) (rows : List Rw), ds = [rwsD rows] ∧ m ≤ 100000 ∧ rows.length ≤ 100000 ∧ AllLen m rows ∧ Q (lI (idxM rows).2)
theorem sc_independent_indexes : FnScope ["rows", "basis", "indexes", "index", "row", "rest", "pivot", "factor", "a"] ["rows"] (defScope (top 20)) := ⟨rfl, rfl, rfl, by decide +kernel, rfl, by decide +kernel, by decide +kernel⟩
theorem u_independent_indexes (T : Txt K mg CT CS CB) : Use P w K mg base "independent_indexes" 3 [false] g_independent_indexes := by
  have S := sc_independent_indexes
  refine T.f_independent_indexes.use (k := 2) S rfl fun f cdv A outer s H E hr => ⟨_, _, (dss_cons (ds_own (i := 1) S.nd (df_lst da_nil))
      (dss_cons (ds_own (i := 2) S.nd (df_lst da_nil))
      (dss_cons (ds_for PassesOwn.never rfl (dip_enK (K := K) 0 rfl T.b_enumerate) (dg_tupK (K := K) (n := 2) rfl (dgs_cons (dg_name (i := 3) S.nd) (dgs_cons (dg_name (i := 4) S.nd) dgs_nil))) (dss_cons (ds_set (i := 5) S.nd (Use.deK (K := K) (u_reduced T) hr (da_wk (dr 4) (da_wk (dr 1) da_nil))))
      (dss_cons (ds_set (i := 6) S.nd (Use.deK (K := K) (u_pivot_of T) hr (da_wk (dr 5) da_nil)))
      (dss_one (ds_if (dt_cmp op_ge lo_B0 (dr 6) (DE.w de_int) (nomark _)) (dss_cons (ds_set (i := 7) S.nd (Use.deK (K := K) (u_inverse T) hr (da_wk (DE.w (de_ixK (K := K) (dr 5) (dr 6))) da_nil)))
      (dss_cons (ds_app (i := 1) (de_tup (da_st (dv 6) (da_st (DF.e (df_lc (own := [("a", 8)]) rfl S.nd (DIp.w (dip_nmK (K := K) 5)) (by kernel_rfl) (fun _ _ _ _ _ => (dg_name (i := 8) S.nd)) (fun _ _ _ _ _ => dts_nil) (fun _ _ _ _ _ => (de_op op_mod lo_I (DE.w (de_op op_mul lo_I (dr 7) (dr 8))) (DE.w (de_gint rfl T.g_PRIME)))))) da_nil))))
      (dss_one (ds_app (i := 2) (dv 3))))) dss_nil)))))
      (dss_frz 2 (dss_one (ds_ret (dv 2))))))), fun ds Q hl hg => ?_⟩
  obtain ⟨m, rows, rfl, hm, hr, ha, q⟩ := hg
  unfold rwsD
  subst_eqs
  intro a1 a2
  rw [enD_map]
  refine forW_inv (α := Nat × Rw) (S := (List (Int × Rw) × List Int) × Sl × Sl × Sl × Sl × Sl) (fun p => .tup [.int (p.1 : Nat), lI p.2])
    (fun s => [.wk (.lst (rows.map lI)), .ow a1 (s.1.1.map bD), .ow a2 (s.1.2.map .int), s.2.1, s.2.2.1, s.2.2.2.1, s.2.2.2.2.1, s.2.2.2.2.2, .no])
    (fun xs s => idxM rows = xs.foldl idxS s.1 ∧ BasOk m s.1.1 ∧ (∀ x ∈ xs, x.2.length = m) ∧ s.1.1.length + xs.length ≤ 100000 ∧ s.1.2.length + xs.length ≤ 100000) ?_ ?_ (enL 0 rows) (([], []), .no, .no, .no, .no, .no) ?_
  · rintro ⟨s, z⟩ ⟨h1, _⟩
    have h1 : idxM rows = s := h1
    subst_eqs
    rw [h1] at q
    exact q
  · rintro ⟨i, row⟩ xs ⟨⟨basis, ixs⟩, z1, z2, z3, z4, z5⟩ J ⟨h1, h2, h3, h4, h5⟩ hJ
    have h2 : BasOk m basis := h2
    have hrow : row.length = m := h3 (i, row) List.mem_cons_self
    have hxs : ∀ x ∈ xs, x.2.length = m := fun x hx => h3 x (List.mem_cons_of_mem _ hx)
    have h4 : basis.length + (xs.length + 1) ≤ 100000 := h4
    have h1 : idxM rows = xs.foldl idxS (idxS (basis, ixs) (i, row)) := h1
    have h5 : ixs.length + (xs.length + 1) ≤ 100000 := h5
    obtain ⟨l1, l2⟩ := redM_ok h2 hrow
    unfold lI
    subst_eqs
    refine ⟨m, row, basis, by unfold lI; rfl, hm, hrow, h2, ?_⟩
    unfold lI
    subst_eqs
    refine ⟨redM row basis, by unfold lI; rfl, ?_⟩
    subst_eqs
    have hS := idxS_ok (s := (basis, ixs)) (q := (i, row)) h2 hrow
    have hK := fun z1 z2 z3 z4 z5 => hJ (idxS (basis, ixs) (i, row), z1, z2, z3, z4, z5)
    rcases pvM_spec (redM row basis) with ⟨z, _⟩ | ⟨p, e1, e2, e3, _⟩
    · have e : idxS (basis, ixs) (i, row) = (basis, ixs) := by unfold idxS; rw [if_neg]; show ¬ 0 ≤ pvM (redM row basis); rw [z]; decide
      rw [e] at hK h1
      rw [if_neg (by rw [z]; decide)]
      exact hK _ _ _ _ _ ⟨h1, h2, hxs, by show basis.length + xs.length ≤ _; omega, by show ixs.length + xs.length ≤ _; omega⟩
    · have hc : 0 ≤ pvM (redM row basis) := by rw [e1]; omega
      have e : idxS (basis, ixs) (i, row) = (basis ++ [(pvM (redM row basis), nrm (pvM (redM row basis)) (redM row basis))], ixs ++ [(i : Int)]) := by unfold idxS; rw [if_pos hc]
      rw [e] at hK hS
      rw [e] at h1
      rw [if_pos hc, get_at (r := redM row basis) hc (by rw [e1]; omega)]
      have hne : (redM row basis).getD (pvM (redM row basis)).toNat 0 % 97 ≠ 0 := by
        have := res_get l2 p
        rw [e1]
        show (redM row basis).getD p 0 % 97 ≠ 0
        omega
      have iv := invM_ok hne
      refine ⟨_, rfl, _, rfl, hne, ?_⟩
      subst_eqs
      refine lcW_map (α := Int) D.int (fun a => D.int ((invM ((redM row basis).getD (pvM (redM row basis)).toNat 0) * a) % 97)) (redM row basis) 0 _ (le_size (by omega)) ?_ ?_
      · intro x hx K1 K2 h
        subst_eqs
        exact ⟨.inl ⟨by omega, by omega⟩, by decide, h⟩
      · subst_eqs
        refine ⟨lt_size (by rw [List.length_map]; omega), ?_⟩
        refine ⟨lt_size (by rw [List.length_map]; omega), ?_⟩
        have := hK (.st (.int (i : Nat))) (.st (lI row)) (.st (lI (redM row basis))) (.st (.int (pvM (redM row basis)))) (.st (.int (invM ((redM row basis).getD (pvM (redM row basis)).toNat 0)))) ⟨h1, hS, hxs, by simp; omega, by simp; omega⟩
        simp only [List.map_append, List.map_cons, List.map_nil] at this
        unfold bD nrm lI at this
        rw [List.map_map] at this
        unfold bD lI
        exact this
  · have el : ∀ (l : List Rw) (i : Nat), (enL i l).length = l.length := by
      intro l
      induction l with
      | nil => intro i; rfl
      | cons x l ih => intro i; exact congrArg (· + 1) (ih (i + 1))
    have em : ∀ (l : List Rw) (i : Nat), ∀ x ∈ enL i l, x.2 ∈ l := by
      intro l
      induction l with
      | nil => intro i x h; cases h
      | cons y l ih =>
        intro i x h
        rcases List.mem_cons.mp h with h | h
        · subst h; exact List.mem_cons_self
        · exact List.mem_cons_of_mem _ (ih (i + 1) x h)
    exact ⟨rfl, (by intro b h; cases h), fun x hx => ha _ (em rows 0 x hx), by show 0 + (enL 0 rows).length ≤ _; rw [el]; omega, by show 0 + (enL 0 rows).length ≤ _; rw [el]; omega⟩
/-! ### independent -/
def indM (rows : List Rw) : Bool := decide (((idxM rows).2.length : Int) = (rows.length : Int))
def g_independent : GD := fun ds Q => ∃ (m : Nat) (rows : List Rw), ds = [rwsD rows] ∧ m ≤ 100000 ∧ rows.length ≤ 100000 ∧ AllLen m rows ∧ Q (.bl (indM rows))
theorem sc_independent : FnScope ["rows"] ["rows"] (defScope (top 21)) := ⟨rfl, rfl, rfl, by decide +kernel, rfl, by decide +kernel, by decide +kernel⟩
theorem u_independent (T : Txt K mg CT CS CB) : Use P w K mg base "independent" 4 [false] g_independent := by
  have S := sc_independent
  refine T.f_independent.use (k := 3) S rfl fun f cdv A outer s H E hr => ⟨_, _, (dss_one (ds_ret (de_cmp op_eq lo_eqI (DE.w (de_callB (call_lenK (K := K)) lc_len rfl T.b_len (da_wk (DE.w (Use.deK (K := K) (u_independent_indexes T) hr (da_wk (dr 0) da_nil))) da_nil))) (DE.w (de_callB (call_lenK (K := K)) lc_len rfl T.b_len (da_wk (dr 0) da_nil))) (nomark _)))), fun ds Q hl hg => ?_⟩
  obtain ⟨m, rows, rfl, hm, hr, ha, q⟩ := hg
  unfold rwsD
  subst_eqs
  refine ⟨m, rows, rfl, hm, hr, ha, ?_⟩
  unfold lI
  subst_eqs
  rw [List.length_map, List.length_map]
  exact q
end K87
end
section
set_option Elab.async false
set_option linter.all false
set_option maxRecDepth 100000
/-! K4: minors. -/
namespace K87
open PySem PySem.Spec PyProof.Rows L2 DL
variable {P : Program} {w : World} {K : PySem.W.Frag} {mg : Str → Option Value} {base : Heap} {CT CS CB : Addr}
local macro_rules | `(tactic| subst_eqs) => `(tactic| try simp only [wSeq, wNext, wFor, wRng1, wRng2, wRd, wSt, wC, gNm, gTp, gsNil, gsCons, wLc, wLc2, wSeqI, wPs, wYes, wIf, wIfS, wTru, wTest, wAnd, wOr, wNot, wAndV, wOrV, wNotV, wOp, wI0, wI, wIx, wUn, wNeg, wCatT, wCB, wCF, wOpF, wCatL, wRepL, wLen, wIntOf, wMM, wListOf, wTupOf, wSorted, wK, wCons, wNil, wPar, wNoPart, wPart, wEn, wEnN, wEnT, wZp, wInI, wIsN, wNotN, wDGet, wMeth, wMake, wFldC, wCon, wIsi,
  rdSl_st, rdSl_wk, rdSl_ow, rdSl_oT, stSl_st, stSl_wk, truD_bl, truD_int, truD_lst, truD_tup, truD_non, lenD_lst, lenD_tup, lenD_scr, walkD_lst, walkD_tup, seqD_lst, seqD_tup, seqD_scr, solid_int, solid_bl, solid_tup, solid_ins, solid_non, solid_str, isNon_non, isNon_lst, isNon_tup, isNon_int, isNon_bl, frz_ow0, frz_succ, frzS_st, frzS_wk, frzS_ow, frzS_oT, frzS_no,
  startD, startS, wipeD, List.set_cons_zero, List.set_cons_succ, List.getElem?_cons_zero, List.getElem?_cons_succ, List.length_cons, List.length_nil, List.cons_append, List.nil_append, List.map_cons, List.map_nil, List.replicate, Nat.reduceSub, Nat.reduceAdd, Option.some.injEq, Sl.st.injEq, Sl.wk.injEq, Sl.ow.injEq, Sl.oT.injEq, Sl.oI.injEq, D.int.injEq, D.lst.injEq, D.tup.injEq, D.bl.injEq, D.dT.injEq, D.ins.injEq, List.cons.injEq, exists_eq_left, exists_eq_left', exists_eq_right, exists_eq_right', exists_and_left, exists_and_right, and_assoc, decide_eq_true_eq, and_true, true_and, and_self, reduceIte, ite_true, ite_false, Bool.false_eq_true, reduceCtorEq, exists_false, false_and, and_false, exists_const, forall_const])

abbrev Asc (c : List Int) : Prop := c.Pairwise (· < ·)
theorem mem_chs {count : Int} : ∀ {n : Nat} {c : List Int}, c ∈ chs count n ↔ c.length = n ∧ Asc c ∧ ∀ x ∈ c, 0 ≤ x ∧ x < count
  | 0, c => by
    constructor
    · intro h
      have : c = [] := by simpa [chs] using h
      subst this
      exact ⟨rfl, .nil, fun x hx => nomatch hx⟩
    · rintro ⟨h, _⟩
      have := List.length_eq_zero_iff.mp h
      subst this
      exact List.mem_singleton.mpr rfl
  | n + 1, c => by
    constructor
    · intro h
      obtain ⟨h1, h3⟩ := chs_in h
      refine ⟨h1, ?_, h3⟩
      simp only [chs, List.mem_flatMap, List.mem_map] at h
      obtain ⟨c', hc', x, hx, rfl⟩ := h
      obtain ⟨_, a2, _⟩ := mem_chs.mp hc'
      rw [mem_rgI] at hx
      refine List.pairwise_append.mpr ⟨a2, List.pairwise_singleton _ _, fun y hy z hz => ?_⟩
      rw [List.mem_singleton.mp hz]
      rcases List.eq_nil_or_concat c' with e | ⟨c2, l, e⟩
      · rw [e] at hy; cases hy
      · rw [List.concat_eq_append] at e
        subst e
        have hn : nxt (c2 ++ [l]) = l + 1 := by unfold nxt; rw [List.getLast?_concat]
        rw [hn] at hx
        rcases List.mem_append.mp hy with hy | hy
        · have := (List.pairwise_append.mp a2).2.2 y hy l (List.mem_singleton.mpr rfl)
          omega
        · rw [List.mem_singleton.mp hy]
          omega
    · rintro ⟨h1, h2, h3⟩
      rcases List.eq_nil_or_concat c with e | ⟨c', x, e⟩
      · rw [e] at h1; cases h1
      · rw [List.concat_eq_append] at e
        subst e
        obtain ⟨p1, _, p3⟩ := List.pairwise_append.mp h2
        simp only [chs, List.mem_flatMap, List.mem_map]
        refine ⟨c', mem_chs.mpr ⟨by simpa using h1, p1, fun y hy => h3 y (List.mem_append_left _ hy)⟩, x, ?_, rfl⟩
        have hx := h3 x (by simp)
        rw [mem_rgI]
        refine ⟨?_, hx.2⟩
        rcases List.eq_nil_or_concat c' with e | ⟨c2, l, e⟩
        · subst e; exact hx.1
        · rw [List.concat_eq_append] at e
          subst e
          have hn : nxt (c2 ++ [l]) = l + 1 := by unfold nxt; rw [List.getLast?_concat]
          rw [hn]
          have := p3 l (by simp) x (List.mem_singleton.mpr rfl)
          omega
theorem nodup_rgI (a b : Int) : (rgI a b).Nodup := by
  unfold rgI
  refine List.Pairwise.map (R := (· ≠ ·)) _ (fun x y h z => h ?_) List.nodup_range
  omega
theorem nodup_snoc {r : List Int → List Int} (hr : ∀ c, (r c).Nodup) : ∀ {l : List (List Int)}, l.Nodup → (l.flatMap fun c => (r c).map fun x => c ++ [x]).Nodup
  | [], _ => .nil
  | c :: l, h => by
    rw [List.flatMap_cons]
    obtain ⟨h1, h2⟩ := List.nodup_cons.mp h
    refine List.nodup_append.mpr ⟨?_, nodup_snoc hr h2, ?_⟩
    · refine List.Pairwise.map (R := (· ≠ ·)) _ (fun x y h z => h ?_) (hr c)
      have := List.append_cancel_left z
      simpa using this
    · intro u hu v hv huv
      subst huv
      obtain ⟨x, _, rfl⟩ := List.mem_map.mp hu
      obtain ⟨c', hc', hv⟩ := List.mem_flatMap.mp hv
      obtain ⟨y, _, e⟩ := List.mem_map.mp hv
      have := List.append_inj_left' e rfl
      subst this
      exact h1 hc'
theorem nodup_chs (count : Int) : ∀ n : Nat, (chs count n).Nodup
  | 0 => by simp [chs]
  | n + 1 => nodup_snoc (fun c => nodup_rgI _ _) (nodup_chs count n)
theorem chs_drop {count : Int} {n : Nat} {c : List Int} (h : c ∈ chs count (n + 1)) {k : Nat} (hk : k < c.length) : c.take k ++ c.drop (k + 1) ∈ chs count n := by
  obtain ⟨h1, h2, h3⟩ := mem_chs.mp h
  have e : c.take k ++ c.drop (k + 1) = c.eraseIdx k := (List.eraseIdx_eq_take_drop_succ c k).symm
  have hs : (c.take k ++ c.drop (k + 1)).Sublist c := by rw [e]; exact List.eraseIdx_sublist c k
  refine mem_chs.mpr ⟨?_, h2.sublist hs, fun x hx => h3 x (hs.subset hx)⟩
  rw [List.length_append, List.length_take, List.length_drop]
  omega
theorem enL_len {α : Type} : ∀ (l : List α) (i : Nat), (enL i l).length = l.length
  | [], _ => rfl
  | _ :: l, i => congrArg (· + 1) (enL_len l (i + 1))
theorem enL_get {α : Type} : ∀ (l : List α) (i k : Nat), (enL i l)[k]? = (l[k]?).map fun x => (i + k, x)
  | [], i, k => by simp [enL]
  | x :: l, i, 0 => by simp [enL]
  | x :: l, i, k + 1 => by
    show (enL (i + 1) l)[k]? = _
    rw [enL_get l (i + 1) k]
    simp only [List.getElem?_cons_succ]
    congr 1
    funext y
    rw [show i + 1 + k = i + (k + 1) by omega]
theorem enL_at {α : Type} {l : List α} {ys xs : List (Nat × α)} {p : Nat × α} (h : enL 0 l = ys ++ p :: xs) : p.1 = ys.length ∧ l[ys.length]? = some p.2 := by
  have e : (enL 0 l)[ys.length]? = some p := by rw [h]; simp
  rw [enL_get] at e
  obtain ⟨x, h1, h2⟩ := Option.map_eq_some_iff.mp e
  subst h2
  exact ⟨Nat.zero_add _, h1⟩
/-! ### the values -/
/-- one turn of the inner sum -/
def smS (row : Rw) (V : List Int → Int) (size : Nat) (c : List Int) (total : Int) (q : Nat × Int) : Int :=
  total + (1 - 2 * (((size : Int) - (q.1 : Nat)) % 2)) * row.getD q.2.toNat 0 * V (c.take q.1 ++ c.drop (q.1 + 1))
def mnV (rows : List Rw) : Nat → List Int → Int
  | 0, _ => 1
  | n + 1, c => ((enL 0 c).foldl (smS (rows.getD n []) (mnV rows n) n c) 0) % 97
def mnM (rows : List Rw) (columns : Nat) : Rw := (chs columns rows.length).map (mnV rows rows.length)
theorem mnV_res (rows : List Rw) : ∀ (n : Nat) (c : List Int), 0 ≤ mnV rows n c ∧ mnV rows n c < 97
  | 0, _ => ⟨by show (0 : Int) ≤ 1; decide, by show (1 : Int) < 97; decide⟩
  | n + 1, c => ⟨Int.emod_nonneg _ (by decide), Int.emod_lt_of_pos _ (by decide)⟩
def knT (rows : List Rw) (n : Nat) (cs : List (List Int)) : List (List Key × D) := cs.map fun c => (iK c, .int (mnV rows n c))
theorem iK_inj {a b : List Int} (h : iK a = iK b) : a = b := List.map_inj_right (fun _ _ z => Sum.inl.inj z) |>.mp h
theorem look_knT (rows : List Rw) (n : Nat) (c : List Int) : ∀ cs : List (List Int), c ∈ cs → lookT (knT rows n cs) (iK c) = some (.int (mnV rows n c))
  | [], h => nomatch h
  | d :: cs, h => by
    unfold lookT knT
    rw [List.map_cons, List.find?_cons]
    by_cases e : d = c
    · subst e
      simp
    · have e2 : decide (iK d = iK c) = false := decide_eq_false fun z => e (iK_inj z)
      dsimp only
      rw [e2]
      exact look_knT rows n c cs ((List.mem_cons.mp h).resolve_left fun z => e z.symm)
theorem key_knT {rows : List Rw} {n : Nat} {c : List Int} {cs : List (List Int)} (h : c ∉ cs) : iK c ∉ (knT rows n cs).map (·.1) := by
  unfold knT
  rw [List.map_map]
  intro z
  obtain ⟨d, hd, e⟩ := List.mem_map.mp z
  exact h (iK_inj e ▸ hd)
theorem cut_take {c : List Int} {k : Nat} (h : k ≤ c.length) : cutD (c.map D.int) none (some (k : Int)) = (c.take k).map D.int := by
  unfold DL.cutD
  rw [HT.sIx_none, HT.sIx_nat, List.length_map, List.map_take, List.drop_zero]
  congr 1
  omega
theorem cut_drop {c : List Int} {k : Nat} (h : k ≤ c.length) : cutD (c.map D.int) (some (k : Int)) none = (c.drop k).map D.int := by
  unfold DL.cutD
  rw [HT.sIx_none, HT.sIx_nat, List.length_map, List.map_drop, Nat.min_eq_left h]
  refine List.take_of_length_le ?_
  rw [List.length_drop, List.length_map]
  omega
def g_minors : GD := fun ds Q => ∃ (rows : List Rw) (columns : Nat), ds = [rwsD rows, .int columns] ∧ columns ≤ 8 ∧ rows.length ≤ 8 ∧ AllLen columns rows ∧ Q (lI (mnM rows columns))
theorem sc_minors : FnScope ["rows", "columns", "known", "size", "row", "larger", "chosen", "total", "place", "column", "sign"] ["rows", "columns"] (defScope (top 23)) := ⟨rfl, rfl, rfl, by decide +kernel, rfl, by decide +kernel, by decide +kernel⟩
theorem u_minors (T : Txt K mg CT CS CB) : Use P w K mg base "minors" 3 [false, false] g_minors := by
  have S := sc_minors
  refine T.f_minors.use (k := 2) S rfl fun f cdv A outer s H E hr => ⟨_, _, (dss_cons (ds_set (i := 2) S.nd (de_disp1 hr.u1 (de_tup da_nil) de_int))
      (dss_cons (ds_for PassesOwn.never rfl (dip_enK (K := K) 0 rfl T.b_enumerate) (dg_tupK (K := K) (n := 2) rfl (dgs_cons (dg_name (i := 3) S.nd) (dgs_cons (dg_name (i := 4) S.nd) dgs_nil))) (dss_cons (ds_dnewT (i := 5) S.nd)
      (dss_cons (ds_for PassesOwn.never rfl (dip_seqK (K := K) (Use.deK (K := K) (u_choices T) hr (da_wk (dr 1) (da_wk (DE.w (de_op op_add lo_I0 (dr 3) (DE.w de_int))) da_nil)))) (dg_name (i := 6) S.nd) (dss_cons (ds_set (i := 7) S.nd de_int)
      (dss_cons (ds_for PassesOwn.never rfl (dip_enTK (K := K) rfl T.b_enumerate (da_wk (dr 6) da_nil)) (dg_tupK (K := K) (n := 2) rfl (dgs_cons (dg_name (i := 8) S.nd) (dgs_cons (dg_name (i := 9) S.nd) dgs_nil))) (dss_cons (ds_set (i := 10) S.nd (de_op op_sub lo_I0 (DE.w de_int) (DE.w (de_op op_mul lo_I (DE.w de_int) (DE.w (de_op op_mod lo_I (DE.w (de_op op_sub lo_I0 (dr 3) (dr 8))) (DE.w de_int)))))))
      (dss_one (ds_set (i := 7) S.nd (de_op op_add lo_I0 (dr 7) (DE.w (de_op op_mul lo_I (DE.w (de_op op_mul lo_I (dr 10) (DE.w (de_ixK (K := K) (dr 4) (dr 9))))) (DE.w (de_dget hr.u1 (dr 2) (de_op (op_catAK (K := K)) lo_catT (DE.w (de_slTK (K := K) (dr 6) do_none (do_some (dv 8)))) (DE.w (de_slTK (K := K) (dr 6) (do_some (de_op op_add lo_I0 (dr 8) (DE.w de_int))) do_none))))))))))))
      (dss_one (ds_dput (i := 5) hr.u1 (de_op op_mod lo_I (dr 7) (DE.w (de_gint rfl T.g_PRIME))) (dv 6))))))
      (dss_frz 5 (dss_one (ds_set (i := 2) S.nd (dv 5)))))))
      (dss_one (ds_ret (DF.e (df_lc (own := [("chosen", 6)]) rfl S.nd (DIp.w (dip_seqK (K := K) (Use.deK (K := K) (u_choices T) hr (da_wk (dr 1) (da_wk (DE.w (de_callB (call_lenK (K := K)) lc_len rfl T.b_len (da_wk (dr 0) da_nil))) da_nil))))) (by kernel_rfl) (fun _ _ _ _ _ => (dg_name (i := 6) S.nd)) (fun _ _ _ _ _ => dts_nil) (fun _ _ _ _ _ => (de_dget hr.u1 (dr 2) (dv 6))))))))), fun ds Q hl hg => ?_⟩
  obtain ⟨rows, columns, rfl, hc, hr, ha, q⟩ := hg
  unfold rwsD
  subst_eqs
  refine ⟨[], rfl, ?_⟩
  rw [enD_map]
  have hk : ∀ n, ∀ cs : List (List Int), (knT rows n cs).length = cs.length := fun n cs => by unfold knT; rw [List.length_map]
  have e0 : ([(iK [], D.int 1)] : List (List Key × D)) = knT rows 0 (chs columns 0) := rfl
  rw [e0]
  refine forW_inv2 (α := Nat × Rw) (S := Nat × Sl × Sl × Sl × Sl × Sl × Sl × Sl × Sl) (fun p => .tup [.int (p.1 : Nat), lI p.2])
    (fun s => [.wk (.lst (rows.map lI)), .wk (.int columns), .st (.dT (knT rows s.1 (chs columns s.1))), s.2.1, s.2.2.1, s.2.2.2.1, s.2.2.2.2.1, s.2.2.2.2.2.1, s.2.2.2.2.2.2.1, s.2.2.2.2.2.2.2.1, s.2.2.2.2.2.2.2.2])
    (fun ys xs s => s.1 = ys.length ∧ enL 0 rows = ys ++ xs) ?_ ?_ (enL 0 rows) [] (0, .no, .no, .no, .no, .no, .no, .no, .no) ⟨rfl, rfl⟩
  · rintro ys ⟨n, z1, z2, z3, z4, z5, z6, z7, z8⟩ ⟨h1, h2⟩
    have hn : n = rows.length := by
      have := congrArg List.length h2
      rw [enL_len, List.append_nil] at this
      exact h1.trans this.symm
    subst hn
    subst_eqs
    rw [List.length_map]
    refine ⟨columns, rows.length, rfl, by omega, by omega, by omega, by omega, ?_⟩
    unfold tI
    subst_eqs
    refine lcW_map (α := List Int) (fun c => D.tup (c.map .int)) (fun c => D.int (mnV rows rows.length c)) (chs columns rows.length) 0 _ ?_ ?_ ?_
    · rw [Nat.zero_add]
      exact le_size (Nat.le_trans (chs_len (by omega) (by omega) _) (pow8 hr))
    · intro c hcm K1 K2 h
      subst_eqs
      exact ⟨c, rfl, _, look_knT rows _ c _ hcm, h⟩
    · unfold lI mnM at q
      rw [List.map_map] at q
      exact q
  · rintro ys ⟨i, row⟩ xs ⟨n, z1, z2, z3, z4, z5, z6, z7, z8⟩ J ⟨h1, h2⟩ hJ
    have h1 : n = ys.length := h1
    obtain ⟨hi, hrow⟩ := enL_at h2
    have hi : i = ys.length := hi
    rw [← h1] at hi hrow
    subst hi
    have hlt : i < rows.length := (List.getElem?_eq_some_iff.mp hrow).1
    have hrl : row.length = columns := ha row (List.mem_of_getElem? hrow)
    have hgd : rows.getD i [] = row := by rw [List.getD_eq_getElem?_getD, hrow]; rfl
    unfold lI
    subst_eqs
    intro a
    refine ⟨columns, ((i : Int) + 1), rfl, by omega, by omega, by omega, by omega, ?_⟩
    rw [show ((i : Int) + 1).toNat = i + 1 by omega]
    subst_eqs
    have hcl : (chs columns (i + 1)).length ≤ 16777216 := Nat.le_trans (chs_len (by omega) (by omega) _) (pow8 (by omega))
    refine forW_inv2 (α := List Int) (S := Sl × Sl × Sl × Sl × Sl × List (List Int)) tI
      (fun s => [.wk (.lst (rows.map lI)), .wk (.int columns), .st (.dT (knT rows i (chs columns i))), .st (.int (i : Nat)), .st (lI row), .oT a (knT rows (i + 1) s.2.2.2.2.2), s.1, s.2.1, s.2.2.1, s.2.2.2.1, s.2.2.2.2.1])
      (fun ys xs s => s.2.2.2.2.2 = ys ∧ chs columns (i + 1) = ys ++ xs) ?_ ?_ (chs columns (i + 1)) [] (z4, z5, z6, z7, z8, []) ⟨rfl, rfl⟩
    · rintro zs ⟨y1, y2, y3, y4, y5, cs⟩ ⟨g1, g2⟩
      have g1 : cs = zs := g1
      subst g1
      rw [List.append_nil] at g2
      unfold lI
      subst_eqs
      rw [← g2]
      exact hJ (i + 1, .st (.int (i : Nat)), .st (lI row), .st (.dT (knT rows (i + 1) (chs columns (i + 1)))), y1, y2, y3, y4, y5) ⟨by rw [List.length_append, ← h1]; rfl, by rw [List.append_assoc]; exact h2⟩
    · rintro zs c cs2 ⟨y1, y2, y3, y4, y5, cs⟩ L ⟨g1, g2⟩ hL
      have g1 : cs = zs := g1
      subst g1
      have hcm : c ∈ chs columns (i + 1) := by rw [g2]; simp
      obtain ⟨c1, c2, c3⟩ := mem_chs.mp hcm
      unfold lI tI
      subst_eqs
      rw [enD_map]
      refine forW_inv2 (α := Nat × Int) (S := Int × Sl × Sl × Sl) (fun p => .tup [.int (p.1 : Nat), .int p.2])
        (fun s => [.wk (.lst (rows.map lI)), .wk (.int columns), .st (.dT (knT rows i (chs columns i))), .st (.int (i : Nat)), .st (lI row), .oT a (knT rows (i + 1) cs), .st (tI c), .st (.int s.1), s.2.1, s.2.2.1, s.2.2.2])
        (fun ys xs s => enL 0 c = ys ++ xs ∧ (enL 0 c).foldl (smS row (mnV rows i) i c) 0 = xs.foldl (smS row (mnV rows i) i c) s.1) ?_ ?_ (enL 0 c) [] (0, y3, y4, y5) ⟨rfl, rfl⟩
      · rintro ps ⟨tot, x1, x2, x3⟩ ⟨_, f2⟩
        have f2 : (enL 0 c).foldl (smS row (mnV rows i) i c) 0 = tot := f2
        have ev : mnV rows (i + 1) c = tot % 97 := by
          show (List.foldl _ 0 _) % 97 = _
          rw [hgd, f2]
        unfold lI tI
        subst_eqs
        have hnd : c ∉ cs := by
          have nd := nodup_chs columns (i + 1)
          rw [g2] at nd
          intro z
          exact (List.nodup_append.mp nd).2.2 c z c List.mem_cons_self rfl
        refine ⟨by decide, c, rfl, ?_, key_knT hnd, ?_⟩
        · rw [hk]
          have := congrArg List.length g2
          rw [List.length_append, List.length_cons] at this
          exact lt_size (by omega)
        · have := hL (.st (tI c), .st (.int tot), x1, x2, x3, cs ++ [c]) ⟨rfl, by rw [List.append_assoc]; exact g2⟩
          have e : knT rows (i + 1) (cs ++ [c]) = knT rows (i + 1) cs ++ [(iK c, D.int (tot % 97))] := by
            unfold knT
            rw [List.map_append, List.map_cons, List.map_nil, ev]
          simp only [e] at this
          exact this
      · rintro ps ⟨pl, co⟩ qs ⟨tot, x1, x2, x3⟩ M ⟨f1, f2⟩ hM
        obtain ⟨p1, p2⟩ := enL_at f1
        have p1 : pl = ps.length := p1
        rw [← p1] at p2
        have hpl : pl < c.length := (List.getElem?_eq_some_iff.mp p2).1
        have hco := c3 co (List.mem_of_getElem? p2)
        unfold lI tI
        subst_eqs
        refine ⟨by decide, .inl ⟨by decide, by decide⟩, ?_⟩
        rw [get_at (r := row) hco.1 (by rw [hrl]; exact hco.2)]
        refine ⟨_, rfl, _, rfl, .inl ⟨by omega, by omega⟩, ?_⟩
        rw [show ((pl : Int) + 1) = ((pl + 1 : Nat) : Int) by omega, cut_take (Nat.le_of_lt hpl), cut_drop hpl]
        refine ⟨le_size (by simp; omega), c.take pl ++ c.drop (pl + 1), by rw [List.map_append], ?_⟩
        rw [look_knT rows i _ _ (chs_drop hcm hpl)]
        have hb := mnV_res rows i (c.take pl ++ c.drop (pl + 1))
        refine ⟨_, rfl, _, rfl, .inr ⟨by omega, by omega⟩, ?_⟩
        exact hM (smS row (mnV rows i) i c tot (pl, co), .st (.int (pl : Nat)), .st (.int co), .st (.int (1 - 2 * (((i : Int) - (pl : Nat)) % 2)))) ⟨by rw [List.append_assoc]; exact f1, f2⟩
end K87
end
section
set_option Elab.async false
set_option linter.all false
set_option maxRecDepth 100000
/-! K5: tables, schemes, contracting. -/
namespace K87
open PySem PySem.Spec PyProof.Rows L2 DL
variable {P : Program} {w : World} {K : PySem.W.Frag} {mg : Str → Option Value} {base : Heap} {CT CS CB : Addr}
local macro_rules | `(tactic| subst_eqs) => `(tactic| try simp only [wSeq, wNext, wFor, wRng1, wRng2, wRd, wSt, wC, gNm, gTp, gsNil, gsCons, wLc, wLc2, wSeqI, wPs, wYes, wIf, wIfS, wTru, wTest, wAnd, wOr, wNot, wAndV, wOrV, wNotV, wOp, wI0, wI, wIx, wUn, wNeg, wCatT, wCB, wCF, wOpF, wCatL, wRepL, wLen, wIntOf, wMM, wListOf, wTupOf, wSorted, wK, wCons, wNil, wPar, wNoPart, wPart, wEn, wEnN, wEnT, wZp, wInI, wIsN, wNotN, wDGet, wMeth, wMake, wFldC, wCon, wIsi,
  rdSl_st, rdSl_wk, rdSl_ow, rdSl_oT, stSl_st, stSl_wk, truD_bl, truD_int, truD_lst, truD_tup, truD_non, lenD_lst, lenD_tup, lenD_scr, walkD_lst, walkD_tup, seqD_lst, seqD_tup, seqD_scr, solid_int, solid_bl, solid_tup, solid_ins, solid_non, solid_str, isNon_non, isNon_lst, isNon_tup, isNon_int, isNon_bl, frz_ow0, frz_succ, frzS_st, frzS_wk, frzS_ow, frzS_oT, frzS_no,
  startD, startS, wipeD, List.set_cons_zero, List.set_cons_succ, List.getElem?_cons_zero, List.getElem?_cons_succ, List.length_cons, List.length_nil, List.cons_append, List.nil_append, List.map_cons, List.map_nil, List.replicate, Nat.reduceSub, Nat.reduceAdd, Option.some.injEq, Sl.st.injEq, Sl.wk.injEq, Sl.ow.injEq, Sl.oT.injEq, Sl.oI.injEq, D.int.injEq, D.lst.injEq, D.tup.injEq, D.bl.injEq, D.dT.injEq, D.ins.injEq, List.cons.injEq, exists_eq_left, exists_eq_left', exists_eq_right, exists_eq_right', exists_and_left, exists_and_right, and_assoc, decide_eq_true_eq, and_true, true_and, and_self, reduceIte, ite_true, ite_false, Bool.false_eq_true, reduceCtorEq, exists_false, false_and, and_false, exists_const, forall_const])

/-! ### tables -/
def tabF (rows : List Rw) (columns : Nat) : List (Str × D) := [("columns", .int columns), ("_rows", rwsD rows), ("things", .int (rows.length : Nat))]
theorem tabF_c (rows : List Rw) (columns : Nat) : (tabF rows columns).lookup ("columns" : Str) = some (.int columns) := rfl
theorem tabF_r (rows : List Rw) (columns : Nat) : (tabF rows columns).lookup ("_rows" : Str) = some (rwsD rows) := rfl
theorem tabF_t (rows : List Rw) (columns : Nat) : (tabF rows columns).lookup ("things" : Str) = some (.int (rows.length : Nat)) := rfl
abbrev tabD (CT : Addr) (rows : List Rw) (columns : Nat) : D := .ins CT (tabF rows columns)
def modR (r : Rw) : Rw := r.map (· % 97)
theorem put1 {d : D} : putD "columns" d [] = [(("columns" : Str), d)] := rfl
theorem put2 {c d : D} : putD "_rows" d [(("columns" : Str), c)] = [(("columns" : Str), c), ("_rows", d)] := by
  unfold putD
  rw [if_neg (by decide)]
  rfl
theorem put3 {c d e : D} : putD "things" e [(("columns" : Str), c), ("_rows", d)] = [(("columns" : Str), c), ("_rows", d), ("things", e)] := by
  unfold putD
  rw [if_neg (by decide)]
  unfold putD
  rw [if_neg (by decide)]
  rfl
def g_Table : GI := fun ds Q => ∃ (rows : List Rw) (columns : Nat), ds = [rwsD rows, .int columns] ∧ columns ≤ 6 ∧ rows.length ≤ 12 ∧ AllLen columns rows ∧ Q (tabF (rows.map modR) columns)
theorem sc_Table___init__ : FnScope ["self", "rows", "columns", "row", "number"] ["self", "rows", "columns"] (defScope (cm 30 2)) := ⟨rfl, rfl, rfl, by decide +kernel, rfl, by decide +kernel, by decide +kernel⟩
theorem u_Table (T : Txt K mg CT CS CB) : UseI P w K mg base "Table" CT 2 [false, false] g_Table := by
  have S := sc_Table___init__
  obtain ⟨mc, hrd, ⟨u1, hc1⟩, u2, hc2⟩ := T.c_Table.rd
  refine T.c_Table.init.use (k := 1) T.c_Table.nm S rfl fun f cdv A outer s H E hr => ⟨_, _, (dss_cons (ds_if (DTW.t (dw_or (dt_cmp op_lt lo_B0 (dr 2) (DE.w de_int) (nomark _)) (dw_or (dt_cmp op_gt lo_B0 (dr 2) (DE.w (de_cval rfl T.c_Table.nm hrd hc2 (fun _ => .int 6))) (nomark _)) (dw_or1 (dt_cmp op_gt lo_B0 (DE.w (de_callB (call_lenK (K := K)) lc_len rfl T.b_len (da_wk (dr 1) da_nil))) (DE.w (de_cval rfl T.c_Table.nm hrd hc1 (fun _ => .int 12))) (nomark _)))))) dss_never dss_nil)
      (dss_cons (ds_for PassesOwn.never rfl (dip_nmK (K := K) 1) (dg_name (i := 3) S.nd) (dss_one (ds_if (dt_cmp op_ne lo_neI (DE.w (de_callB (call_lenK (K := K)) lc_len rfl T.b_len (da_wk (dr 3) da_nil))) (dr 2) (nomark _)) dss_never dss_nil)))
      (dss_cons (ds_fld (i := 0) T.c_Table.cls T.c_Table.n_columns (DW.k (dr 2)))
      (dss_cons (ds_fld (i := 0) T.c_Table.cls T.c_Table.n__rows (DF.e (df_lc (own := [("row", 3)]) rfl S.nd (DIp.w (dip_nmK (K := K) 1)) (by kernel_rfl) (fun _ _ _ _ _ => (dg_name (i := 3) S.nd)) (fun _ _ _ _ _ => dts_nil) (fun _ _ _ _ _ => (DF.e (df_lc (own := [("number", 4)]) rfl S.nd (DIp.w (dip_nmK (K := K) 3)) (by kernel_rfl) (fun _ _ _ _ _ => (dg_name (i := 4) S.nd)) (fun _ _ _ _ _ => dts_nil) (fun _ _ _ _ _ => (de_op op_mod lo_I (dr 4) (DE.w (de_gint rfl T.g_PRIME))))))))))
      (dss_one (ds_fld (i := 0) T.c_Table.cls T.c_Table.n_things (de_callB (call_lenK (K := K)) lc_len rfl T.b_len (da_wk (dr 1) da_nil)))))))), fun a ds Q hl hg => ?_⟩
  obtain ⟨rows, columns, rfl, hc, hr, ha, q⟩ := hg
  unfold rwsD
  subst_eqs
  rw [if_neg (by omega), if_neg (by omega), if_neg (by rw [List.length_map]; omega)]
  refine forW_inv (α := Rw) (S := Sl) lI (fun s => [Sl.oI a CT [], Sl.wk (D.lst (List.map lI rows)), Sl.wk (D.int columns), s, Sl.no]) (fun xs _ => ∀ x ∈ xs, x.length = columns) ?_ ?_ rows .no ha
  · intro z _
    subst_eqs
    refine ⟨by decide, ?_⟩
    refine lcW_map (α := Rw) lI (fun r => lI (modR r)) rows 0 _ (le_size (by omega)) ?_ ?_
    · intro r hrm K1 K2 h
      unfold lI
      subst_eqs
      refine lcW_map (α := Int) D.int (fun a => D.int (a % 97)) r 0 _ (le_size (by have := ha r hrm; omega)) ?_ ?_
      · intro x _ J1 J2 h
        subst_eqs
        exact ⟨by decide, h⟩
      · unfold lI modR at h
        rw [List.map_map] at h
        exact h
    · subst_eqs
      rw [put1, put2]
      refine ⟨by simp, by simp, ?_⟩
      rw [put3]
      unfold tabF rwsD at q
      rw [List.map_map, List.length_map] at q
      rw [List.length_map]
      exact q
  · intro x xs z J h hJ
    unfold lI
    subst_eqs
    have hx : x.length = columns := h x List.mem_cons_self
    rw [List.length_map, hx]
    simp only [decide_true, Bool.not_true, Bool.false_eq_true, if_false]
    have := hJ (.st (lI x)) fun y hy => h y (List.mem_cons_of_mem _ hy)
    unfold lI at this
    exact this
/-- the tables that are met -/
structure TabOk (rows : List Rw) (columns : Nat) : Prop where
  c : columns ≤ 6
  r : rows.length ≤ 12
  l : AllLen columns rows
  m : ∀ r ∈ rows, Res r
theorem get_row {rows : List Rw} {x : Int} (h0 : 0 ≤ x) (h1 : x < rows.length) : atI (rows.map lI) x = some (lI (rows.getD x.toNat [])) := by
  rw [atI_of h0, List.getElem?_map, List.getD_eq_getElem?_getD, List.getElem?_eq_getElem (by omega)]
  rfl
def g_row (CT : Addr) : GD := fun ds Q => ∃ (rows : List Rw) (columns : Nat) (x : Int), ds = [tabD CT rows columns, .int x] ∧ 0 ≤ x ∧ x < rows.length ∧ Q (lI (rows.getD x.toNat []))
theorem sc_Table_row : FnScope ["self", "thing"] ["self", "thing"] (defScope (cm 30 5)) := ⟨rfl, rfl, rfl, by decide +kernel, rfl, by decide +kernel, by decide +kernel⟩
theorem u_Table_row (T : Txt K mg CT CS CB) : UseM P w K mg base CT "row" 2 [false] (g_row CT) := by
  have S := sc_Table_row
  refine T.c_Table.m_row.use (k := 1) T.c_Table.cls S rfl fun f cdv A outer s H E hr => ⟨_, _, (dss_one (ds_ret (DF.e (df_callT (call_list_ofK (K := K)) lc_list rfl T.b_list (da_wk (DE.w (de_ixK (K := K) (DE.w (de_fldK (K := K) T.c_Table.cls T.c_Table.n__rows (dv 0))) (dr 1))) da_nil))))), fun ds Q hl hg => ?_⟩
  obtain ⟨rows, columns, x, rfl, h0, h1, q⟩ := hg
  subst_eqs
  simp only [tabF_r]
  unfold rwsD
  subst_eqs
  rw [get_row h0 h1]
  unfold lI at *
  subst_eqs
  exact q
def g_rows_of (CT : Addr) : GD := fun ds Q => ∃ (rows : List Rw) (columns : Nat) (lot : List Int), ds = [tabD CT rows columns, tI lot] ∧ (∀ x ∈ lot, 0 ≤ x ∧ x < rows.length) ∧ lot.length ≤ 100000 ∧ Q (rwsD (lot.map fun x => rows.getD x.toNat []))
theorem sc_Table_rows_of : FnScope ["self", "things", "thing"] ["self", "things"] (defScope (cm 30 6)) := ⟨rfl, rfl, rfl, by decide +kernel, rfl, by decide +kernel, by decide +kernel⟩
theorem u_Table_rows_of (T : Txt K mg CT CS CB) : UseM P w K mg base CT "rows_of" 3 [false] (g_rows_of CT) := by
  have S := sc_Table_rows_of
  refine T.c_Table.m_rows_of.use (k := 2) T.c_Table.cls S rfl fun f cdv A outer s H E hr => ⟨_, _, (dss_one (ds_ret (DF.e (df_lc (own := [("thing", 2)]) rfl S.nd (DIp.w (dip_nmK (K := K) 1)) (by kernel_rfl) (fun _ _ _ _ _ => (dg_name (i := 2) S.nd)) (fun _ _ _ _ _ => dts_nil) (fun _ _ _ _ _ => (UseM.deK (K := K) (u_Table_row T) hr (dv 0) (da_wk (dr 2) da_nil))))))), fun ds Q hl hg => ?_⟩
  obtain ⟨rows, columns, lot, rfl, hl0, hll, q⟩ := hg
  unfold tI
  subst_eqs
  refine lcW_map (α := Int) D.int (fun x => lI (rows.getD x.toNat [])) lot 0 _ (le_size (by omega)) ?_ ?_
  · intro x hx K1 K2 h
    subst_eqs
    exact ⟨rfl, rows, columns, x, rfl, (hl0 x hx).1, (hl0 x hx).2, h⟩
  · unfold rwsD at q
    rw [List.map_map] at q
    exact q
/-- free things -/
def freeM (rows : List Rw) (lot : List Int) : Bool := indM (lot.map fun x => rows.getD x.toNat [])
def g_free (CT : Addr) : GD := fun ds Q => ∃ (rows : List Rw) (columns : Nat) (lot : List Int), ds = [tabD CT rows columns, tI lot] ∧ TabOk rows columns ∧ (∀ x ∈ lot, 0 ≤ x ∧ x < rows.length) ∧ lot.length ≤ 100000 ∧ Q (.bl (freeM rows lot))
theorem rows_len {rows : List Rw} {columns : Nat} (h : AllLen columns rows) {lot : List Int} (hl : ∀ x ∈ lot, 0 ≤ x ∧ x < rows.length) : AllLen columns (lot.map fun x => rows.getD x.toNat []) := by
  intro r hr
  obtain ⟨x, hx, rfl⟩ := List.mem_map.mp hr
  have := hl x hx
  rw [List.getD_eq_getElem?_getD, List.getElem?_eq_getElem (by omega)]
  exact h _ (List.getElem_mem _)
theorem rows_res {rows : List Rw} {columns : Nat} (h : TabOk rows columns) (x : Nat) : Res (rows.getD x []) := by
  rw [List.getD_eq_getElem?_getD]
  cases e : rows[x]? with
  | none => exact fun a ha => nomatch ha
  | some r => exact h.m r (List.mem_of_getElem? e)
theorem sc_Table_free : FnScope ["self", "things"] ["self", "things"] (defScope (cm 30 7)) := ⟨rfl, rfl, rfl, by decide +kernel, rfl, by decide +kernel, by decide +kernel⟩
theorem u_Table_free (T : Txt K mg CT CS CB) : UseM P w K mg base CT "free" 5 [false] (g_free CT) := by
  have S := sc_Table_free
  refine T.c_Table.m_free.use (k := 4) T.c_Table.cls S rfl fun f cdv A outer s H E hr => ⟨_, _, (dss_one (ds_ret (Use.deK (K := K) (u_independent T) hr (da_wk (DE.w (UseM.deK (K := K) (u_Table_rows_of T) hr (dv 0) (da_wk (dr 1) da_nil))) da_nil)))), fun ds Q hl hg => ?_⟩
  obtain ⟨rows, columns, lot, rfl, ht, hl0, hll, q⟩ := hg
  subst_eqs
  refine ⟨rfl, rows, columns, lot, rfl, hl0, hll, ?_⟩
  exact ⟨columns, _, rfl, by have := ht.c; omega, by rw [List.length_map]; omega, rows_len ht.l hl0, q⟩
/-! ### schemes -/
def schF (CT : Addr) (rows : List Rw) (columns size : Nat) : List (Str × D) := [("table", tabD CT rows columns), ("size", .int size), ("spare", .int ((columns : Int) - size)), ("width", .int ((chs columns size).length : Nat))]
theorem schF_t (CT : Addr) (rows : List Rw) (columns size : Nat) : (schF CT rows columns size).lookup ("table" : Str) = some (tabD CT rows columns) := rfl
theorem schF_s (CT : Addr) (rows : List Rw) (columns size : Nat) : (schF CT rows columns size).lookup ("size" : Str) = some (.int size) := rfl
abbrev schD (CS CT : Addr) (rows : List Rw) (columns size : Nat) : D := .ins CS (schF CT rows columns size)
theorem puts1 {d : D} : putD "table" d [] = [(("table" : Str), d)] := rfl
theorem puts2 {c d : D} : putD "size" d [(("table" : Str), c)] = [(("table" : Str), c), ("size", d)] := by
  unfold putD
  rw [if_neg (by decide)]
  rfl
theorem puts3 {c d e : D} : putD "spare" e [(("table" : Str), c), ("size", d)] = [(("table" : Str), c), ("size", d), ("spare", e)] := by
  unfold putD
  rw [if_neg (by decide)]
  unfold putD
  rw [if_neg (by decide)]
  rfl
theorem puts4 {c d e f : D} : putD "width" f [(("table" : Str), c), ("size", d), ("spare", e)] = [(("table" : Str), c), ("size", d), ("spare", e), ("width", f)] := by
  unfold putD
  rw [if_neg (by decide)]
  unfold putD
  rw [if_neg (by decide)]
  unfold putD
  rw [if_neg (by decide)]
  rfl
def g_Scheme (CT : Addr) : GI := fun ds Q => ∃ (rows : List Rw) (columns size : Nat), ds = [tabD CT rows columns, .int size] ∧ columns ≤ 6 ∧ size ≤ columns ∧ Q (schF CT rows columns size)
theorem sc_Scheme___init__ : FnScope ["self", "table", "size"] ["self", "table", "size"] (defScope (cm 24 1)) := ⟨rfl, rfl, rfl, by decide +kernel, rfl, by decide +kernel, by decide +kernel⟩
theorem u_Scheme (T : Txt K mg CT CS CB) : UseI P w K mg base "Scheme" CS 3 [true, false] (g_Scheme CT) := by
  have S := sc_Scheme___init__
  refine T.c_Scheme.init.use (k := 2) T.c_Scheme.nm S rfl fun f cdv A outer s H E hr => ⟨_, _, (dss_cons (ds_if (DTW.t (dw_or (dt_cmp op_lt lo_B0 (dr 2) (DE.w de_int) (nomark _)) (dw_or1 (dt_cmp op_gt lo_B0 (dr 2) (DE.w (de_fldK (K := K) T.c_Table.cls T.c_Table.n_columns (dv 1))) (nomark _))))) dss_never dss_nil)
      (dss_cons (ds_fld (i := 0) T.c_Scheme.cls T.c_Scheme.n_table (dv 1))
      (dss_cons (ds_fld (i := 0) T.c_Scheme.cls T.c_Scheme.n_size (DW.k (dr 2)))
      (dss_cons (ds_fld (i := 0) T.c_Scheme.cls T.c_Scheme.n_spare (de_op op_sub lo_I0 (DE.w (de_fldK (K := K) T.c_Table.cls T.c_Table.n_columns (dv 1))) (dr 2)))
      (dss_one (ds_fld (i := 0) T.c_Scheme.cls T.c_Scheme.n_width (de_callB (call_lenK (K := K)) lc_len rfl T.b_len (da_wk (DE.w (Use.deK (K := K) (u_choices T) hr (da_wk (DE.w (de_fldK (K := K) T.c_Table.cls T.c_Table.n_columns (dv 1))) (da_wk (dr 2) da_nil)))) da_nil)))))))), fun a ds Q hl hg => ?_⟩
  obtain ⟨rows, columns, size, rfl, hc, hs, q⟩ := hg
  subst_eqs
  rw [if_neg (by omega)]
  simp only [tabF_c]
  subst_eqs
  rw [if_neg (by omega), puts1, puts2]
  refine ⟨by decide, by simp, by simp, columns, size, rfl, by omega, by omega, by omega, by omega, ?_⟩
  rw [puts3]
  subst_eqs
  rw [puts4, List.length_map]
  refine ⟨by simp, ?_⟩
  exact q
def g_check (CT CS : Addr) : GD := fun ds Q => ∃ (rows : List Rw) (columns size : Nat) (lot : List Int), ds = [schD CS CT rows columns size, tI lot] ∧ lot.length = size ∧ lotF rows.length 0 lot = true ∧ Q .non
theorem sc_Scheme_check : FnScope ["self", "lot"] ["self", "lot"] (defScope (cm 24 2)) := ⟨rfl, rfl, rfl, by decide +kernel, rfl, by decide +kernel, by decide +kernel⟩
theorem u_Scheme_check (T : Txt K mg CT CS CB) : UseM P w K mg base CS "check" 3 [false] (g_check CT CS) := by
  have S := sc_Scheme_check
  refine T.c_Scheme.m_check.use (k := 2) T.c_Scheme.cls S rfl fun f cdv A outer s H E hr => ⟨_, _, (dss_one (ds_if (DTW.t (dw_or (dt_cmp op_ne lo_neI (DE.w (de_callB (call_lenK (K := K)) lc_len rfl T.b_len (da_wk (dr 1) da_nil))) (DE.w (de_fldK (K := K) T.c_Scheme.cls T.c_Scheme.n_size (dv 0))) (nomark _)) (dw_or1 (dt_not (dt_val (Use.deK (K := K) (u_is_lot T) hr (da_wk (dr 1) (da_wk (DE.w (de_fldK (K := K) T.c_Table.cls T.c_Table.n_things (de_fldK (K := K) T.c_Scheme.cls T.c_Scheme.n_table (dv 0)))) da_nil)))))))) dss_never dss_nil)), fun ds Q hl hg => ?_⟩
  obtain ⟨rows, columns, size, lot, rfl, hls, hlot, q⟩ := hg
  unfold tI
  subst_eqs
  simp only [schF_s, schF_t]
  subst_eqs
  simp only [tabF_t]
  subst_eqs
  rw [List.length_map, hls]
  simp only [decide_true, Bool.not_true, Bool.false_eq_true, if_false]
  refine ⟨lot, rows.length, rfl, ?_⟩
  rw [hlot]
  exact ⟨true, rfl, q⟩
theorem lotF_spec {count : Int} : ∀ {lot : List Int} {least : Int}, lotF count least lot = true ↔ Asc lot ∧ ∀ x ∈ lot, least ≤ x ∧ x < count
  | [], least => by simp [lotF]
  | x :: xs, least => by
    unfold lotF
    by_cases c : x < least ∨ count ≤ x
    · rw [if_pos c]
      constructor
      · intro h; cases h
      · rintro ⟨_, h⟩
        have := h x List.mem_cons_self
        omega
    · rw [if_neg c, lotF_spec, show Asc (x :: xs) = List.Pairwise (· < ·) (x :: xs) from rfl, List.pairwise_cons]
      constructor
      · rintro ⟨h1, h2⟩
        refine ⟨⟨fun y hy => by have := h2 y hy; omega, h1⟩, fun y hy => ?_⟩
        rcases List.mem_cons.mp hy with e | e
        · subst e; omega
        · have := h2 y e; omega
      · rintro ⟨⟨h1, h2⟩, h3⟩
        exact ⟨h2, fun y hy => ⟨by have := h1 y hy; omega, (h3 y (List.mem_cons_of_mem _ hy)).2⟩⟩
def g_srow (CT CS : Addr) : GD := fun ds Q => ∃ (rows : List Rw) (columns size : Nat) (lot : List Int), ds = [schD CS CT rows columns size, tI lot] ∧ TabOk rows columns ∧ lot.length = size ∧ size ≤ columns ∧ lotF rows.length 0 lot = true ∧ Q (lI (mnM (lot.map fun x => rows.getD x.toNat []) columns))
theorem sc_Scheme_row : FnScope ["self", "lot"] ["self", "lot"] (defScope (cm 24 4)) := ⟨rfl, rfl, rfl, by decide +kernel, rfl, by decide +kernel, by decide +kernel⟩
theorem u_Scheme_row (T : Txt K mg CT CS CB) : UseM P w K mg base CS "row" 4 [false] (g_srow CT CS) := by
  have S := sc_Scheme_row
  refine T.c_Scheme.m_row.use (k := 3) T.c_Scheme.cls S rfl fun f cdv A outer s H E hr => ⟨_, _, (dss_cons (ds_expr (DE.w (UseM.deK (K := K) (u_Scheme_check T) hr (dv 0) (da_wk (dr 1) da_nil))))
      (dss_one (ds_ret (Use.deK (K := K) (u_minors T) hr (da_wk (DE.w (UseM.deK (K := K) (u_Table_rows_of T) hr (de_fldK (K := K) T.c_Scheme.cls T.c_Scheme.n_table (dv 0)) (da_wk (dr 1) da_nil))) (da_wk (DE.w (de_fldK (K := K) T.c_Table.cls T.c_Table.n_columns (de_fldK (K := K) T.c_Scheme.cls T.c_Scheme.n_table (dv 0)))) da_nil)))))), fun ds Q hl hg => ?_⟩
  obtain ⟨rows, columns, size, lot, rfl, ht, hls, hsc, hlot, q⟩ := hg
  subst_eqs
  simp only [schF_s, schF_t, tabF_t, tabF_c]
  have hin := (lotF_spec.mp hlot).2
  refine ⟨rfl, rows, columns, size, lot, rfl, hls, hlot, ?_⟩
  subst_eqs
  refine ⟨rfl, rows, columns, lot, rfl, hin, by have := ht.c; omega, ?_⟩
  simp only [tabF_c]
  subst_eqs
  exact ⟨_, columns, rfl, by have := ht.c; omega, by rw [List.length_map]; have := ht.c; omega, rows_len ht.l hin, q⟩
end K87
end
section
set_option Elab.async false
set_option linter.all false
set_option maxRecDepth 100000
/-! K6: contracting. -/
namespace K87
open PySem PySem.Spec PyProof.Rows L2 DL
variable {P : Program} {w : World} {K : PySem.W.Frag} {mg : Str → Option Value} {base : Heap} {CT CS CB : Addr}
local macro_rules | `(tactic| subst_eqs) => `(tactic| try simp only [wSeq, wNext, wFor, wRng1, wRng2, wRd, wSt, wC, gNm, gTp, gsNil, gsCons, wLc, wLc2, wSeqI, wPs, wYes, wIf, wIfS, wTru, wTest, wAnd, wOr, wNot, wAndV, wOrV, wNotV, wOp, wI0, wI, wIx, wUn, wNeg, wCatT, wCB, wCF, wOpF, wCatL, wRepL, wLen, wIntOf, wMM, wListOf, wTupOf, wSorted, wK, wCons, wNil, wPar, wNoPart, wPart, wEn, wEnN, wEnT, wZp, wInI, wIsN, wNotN, wDGet, wMeth, wMake, wFldC, wCon, wIsi,
  rdSl_st, rdSl_wk, rdSl_ow, rdSl_oT, stSl_st, stSl_wk, truD_bl, truD_int, truD_lst, truD_tup, truD_non, lenD_lst, lenD_tup, lenD_scr, walkD_lst, walkD_tup, seqD_lst, seqD_tup, seqD_scr, solid_int, solid_bl, solid_tup, solid_ins, solid_non, solid_str, isNon_non, isNon_lst, isNon_tup, isNon_int, isNon_bl, frz_ow0, frz_succ, frzS_st, frzS_wk, frzS_ow, frzS_oT, frzS_no,
  startD, startS, wipeD, List.set_cons_zero, List.set_cons_succ, List.getElem?_cons_zero, List.getElem?_cons_succ, List.length_cons, List.length_nil, List.cons_append, List.nil_append, List.map_cons, List.map_nil, List.replicate, Nat.reduceSub, Nat.reduceAdd, Option.some.injEq, Sl.st.injEq, Sl.wk.injEq, Sl.ow.injEq, Sl.oT.injEq, Sl.oI.injEq, D.int.injEq, D.lst.injEq, D.tup.injEq, D.bl.injEq, D.dT.injEq, D.ins.injEq, List.cons.injEq, exists_eq_left, exists_eq_left', exists_eq_right, exists_eq_right', exists_and_left, exists_and_right, and_assoc, decide_eq_true_eq, and_true, true_and, and_self, reduceIte, ite_true, ite_false, Bool.false_eq_true, reduceCtorEq, exists_false, false_and, and_false, exists_const, forall_const])

abbrev Bas := List (Int × Rw)
def frs (basis : Bas) (row : Rw) : Int × Rw := (pvM (redM row basis), nrm (pvM (redM row basis)) (redM row basis))
def rfS (basis : Bas) (row : Rw) : Bas := basis.map (fun b => (b.1, redM b.2 [frs basis row])) ++ [frs basis row]
def rfM (rows : List Rw) : Bas := rows.foldl rfS []
/-- each row has a pivot -/
def RfGo : Bas → List Rw → Prop
  | _, [] => True
  | basis, row :: rows => 0 ≤ pvM (redM row basis) ∧ RfGo (rfS basis row) rows
theorem frs_ok {m : Nat} {basis : Bas} {row : Rw} (hb : BasOk m basis) (h : row.length = m) (hp : 0 ≤ pvM (redM row basis)) : BasOk m [frs basis row] := by
  intro b hbm
  rw [List.mem_singleton.mp hbm]
  obtain ⟨l1, l2⟩ := redM_ok hb h
  rcases pvM_spec (redM row basis) with ⟨z, _⟩ | ⟨i, z1, z2, _⟩
  · rw [z] at hp; exact absurd hp (by decide)
  · refine ⟨hp, ?_, by show (nrm _ _).length = m; rw [nrm_len]; exact l1⟩
    show pvM (redM row basis) < m
    rw [z1]
    omega
theorem rfS_ok {m : Nat} {basis : Bas} {row : Rw} (hb : BasOk m basis) (h : row.length = m) (hp : 0 ≤ pvM (redM row basis)) : BasOk m (rfS basis row) := by
  have hf := frs_ok hb h hp
  intro b hbm
  rcases List.mem_append.mp hbm with hbm | hbm
  · obtain ⟨c, hc, rfl⟩ := List.mem_map.mp hbm
    obtain ⟨h1, h2, h3⟩ := hb c hc
    exact ⟨h1, h2, (redM_ok hf h3).1⟩
  · exact hf b hbm
theorem rfS_len (basis : Bas) (row : Rw) : (rfS basis row).length = basis.length + 1 := by unfold rfS; simp
theorem rf_ok {m : Nat} : ∀ (rows : List Rw) (basis : Bas), BasOk m basis → AllLen m rows → RfGo basis rows → BasOk m (rows.foldl rfS basis)
  | [], _, hb, _, _ => hb
  | row :: rows, basis, hb, ha, hg => rf_ok rows _ (rfS_ok hb (ha row List.mem_cons_self) hg.1) (fun r hr => ha r (List.mem_cons_of_mem _ hr)) hg.2
def g_reduced_form : GD := fun ds Q => ∃ (m : Nat) (rows : List Rw), ds = [rwsD rows] ∧ m ≤ 100000 ∧ rows.length ≤ 100000 ∧ AllLen m rows ∧ RfGo [] rows ∧ Q (.lst ((rfM rows).map bD))
theorem bas_eq (b : Int × Rw) : D.tup [D.int b.1, D.lst (b.2.map .int)] = bD b := rfl
theorem sc_reduced_form : FnScope ["rows", "basis", "row", "rest", "pivot", "factor", "fresh", "number", "column", "old"] ["rows"] (defScope (top 32)) := ⟨rfl, rfl, rfl, by decide +kernel, rfl, by decide +kernel, by decide +kernel⟩
theorem u_reduced_form (T : Txt K mg CT CS CB) : Use P w K mg base "reduced_form" 3 [false] g_reduced_form := by
  have S := sc_reduced_form
  refine T.f_reduced_form.use (k := 2) S rfl fun f cdv A outer s H E hr => ⟨_, _, (dss_cons (ds_own (i := 1) S.nd (df_lst da_nil))
      (dss_cons (ds_for PassesOwn.never rfl (dip_nmK (K := K) 0) (dg_name (i := 2) S.nd) (dss_cons (ds_set (i := 3) S.nd (Use.deK (K := K) (u_reduced T) hr (da_wk (dr 2) (da_wk (dr 1) da_nil))))
      (dss_cons (ds_set (i := 4) S.nd (Use.deK (K := K) (u_pivot_of T) hr (da_wk (dr 3) da_nil)))
      (dss_cons (ds_set (i := 5) S.nd (Use.deK (K := K) (u_inverse T) hr (da_wk (DE.w (de_ixK (K := K) (dr 3) (dr 4))) da_nil)))
      (dss_cons (ds_set (i := 6) S.nd (de_tup (da_st (dv 4) (da_st (DF.e (df_lc (own := [("number", 7)]) rfl S.nd (DIp.w (dip_nmK (K := K) 3)) (by kernel_rfl) (fun _ _ _ _ _ => (dg_name (i := 7) S.nd)) (fun _ _ _ _ _ => dts_nil) (fun _ _ _ _ _ => (de_op op_mod lo_I (DE.w (de_op op_mul lo_I (dr 5) (dr 7))) (DE.w (de_gint rfl T.g_PRIME)))))) da_nil))))
      (dss_cons (ds_lcO (i := 1) (own := [("column", 8), ("old", 9)]) rfl S.nd (diw_seqK (K := K) (dr 1)) (by kernel_rfl) (fun _ _ _ _ _ => (dg_tupK (K := K) (n := 2) rfl (dgs_cons (dg_name (i := 8) S.nd) (dgs_cons (dg_name (i := 9) S.nd) dgs_nil)))) (fun _ _ _ _ _ => dts_nil) (fun _ _ _ _ _ => (de_tup (da_st (dv 8) (da_st (Use.deK (K := K) (u_reduced T) hr (da_wk (dr 9) (da_wk (DF.w (df_lst (da_st (dv 6) da_nil))) da_nil))) da_nil)))))
      (dss_one (ds_app (i := 1) (dv 6)))))))))
      (dss_frz 1 (dss_one (ds_ret (dv 1)))))), fun ds Q hl hg => ?_⟩
  obtain ⟨m, rows, rfl, hm, hr, ha, hgo, q⟩ := hg
  unfold rwsD
  subst_eqs
  intro a1
  have e0 : ([] : List D) = ([] : Bas).map bD := rfl
  rw [e0]
  refine forW_inv (α := Rw) (S := (Addr × Bas) × Sl × Sl × Sl × Sl × Sl) lI
    (fun s => [.wk (.lst (rows.map lI)), .ow s.1.1 (s.1.2.map bD), s.2.1, s.2.2.1, s.2.2.2.1, s.2.2.2.2.1, s.2.2.2.2.2, .no, .no, .no])
    (fun xs s => rfM rows = xs.foldl rfS s.1.2 ∧ BasOk m s.1.2 ∧ AllLen m xs ∧ RfGo s.1.2 xs ∧ s.1.2.length + xs.length ≤ 100000) ?_ ?_ rows ((a1, []), .no, .no, .no, .no, .no) ⟨rfl, (by intro b h; cases h), ha, hgo, by show 0 + rows.length ≤ _; omega⟩
  · rintro ⟨⟨b1, basis⟩, z⟩ ⟨h1, _⟩
    have h1 : rfM rows = basis := h1
    subst_eqs
    rw [h1] at q
    exact q
  · rintro row xs ⟨⟨b1, basis⟩, z1, z2, z3, z4, z5⟩ J ⟨h1, h2, h3, h4, h5⟩ hJ
    have h1 : rfM rows = xs.foldl rfS (rfS basis row) := h1
    have h2 : BasOk m basis := h2
    have hrow : row.length = m := h3 row List.mem_cons_self
    have hp : 0 ≤ pvM (redM row basis) := h4.1
    have h6 : RfGo (rfS basis row) xs := h4.2
    have h5 : basis.length + (xs.length + 1) ≤ 100000 := h5
    have hf := frs_ok h2 hrow hp
    obtain ⟨l1, l2⟩ := redM_ok h2 hrow
    have hlt : pvM (redM row basis) < (redM row basis).length := by
      have := (hf _ List.mem_cons_self).2.1
      rw [l1]
      exact this
    unfold lI
    subst_eqs
    refine ⟨m, row, basis, by unfold lI; rfl, hm, hrow, h2, ?_⟩
    unfold lI
    subst_eqs
    refine ⟨redM row basis, by unfold lI; rfl, ?_⟩
    subst_eqs
    rw [get_at (r := redM row basis) hp hlt]
    have hne : (redM row basis).getD (pvM (redM row basis)).toNat 0 % 97 ≠ 0 := by
      rcases pvM_spec (redM row basis) with ⟨z, _⟩ | ⟨p, e1, e2, e3, _⟩
      · rw [z] at hp; exact absurd hp (by decide)
      · have := res_get l2 p
        rw [e1]
        show (redM row basis).getD p 0 % 97 ≠ 0
        omega
    have iv := invM_ok hne
    refine ⟨_, rfl, _, rfl, hne, ?_⟩
    subst_eqs
    refine lcW_map (α := Int) D.int (fun a => D.int ((invM ((redM row basis).getD (pvM (redM row basis)).toNat 0) * a) % 97)) (redM row basis) 0 _ (le_size (by omega)) ?_ ?_
    · intro x hx K1 K2 h
      subst_eqs
      exact ⟨.inl ⟨by omega, by omega⟩, by decide, h⟩
    · have ef : D.tup [D.int (pvM (redM row basis)), D.lst ((redM row basis).map fun a => D.int ((invM ((redM row basis).getD (pvM (redM row basis)).toNat 0) * a) % 97))] = bD (frs basis row) := by
        unfold bD frs lI nrm
        rw [List.map_map]
        rfl
      subst_eqs
      rw [ef]
      refine lcW_map (α := Int × Rw) bD (fun b => bD (b.1, redM b.2 [frs basis row])) basis 0 _ (le_size (by omega)) ?_ ?_
      · rintro ⟨c, old⟩ hb K1 K2 h
        obtain ⟨o1, o2, o3⟩ := h2 _ hb
        rw [show bD (c, old) = D.tup [D.int c, lI old] from rfl]
        unfold lI
        subst_eqs
        refine ⟨m, old, [frs basis row], by unfold lI; rfl, hm, o3, hf, ?_⟩
        unfold bD at h
        exact h
      · subst_eqs
        intro b2
        refine ⟨lt_size (by rw [List.length_map]; omega), ?_⟩
        have := hJ ((b2, rfS basis row), .st (lI row), .st (lI (redM row basis)), .st (.int (pvM (redM row basis))), .st (.int (invM ((redM row basis).getD (pvM (redM row basis)).toNat 0))), .st (bD (frs basis row))) ⟨h1, rfS_ok h2 hrow hp, fun r hr => h3 r (List.mem_cons_of_mem _ hr), h6, by rw [rfS_len]; omega⟩
        have er : (rfS basis row).map bD = basis.map (fun b => bD (b.1, redM b.2 [frs basis row])) ++ [bD (frs basis row)] := by
          unfold rfS
          rw [List.map_append, List.map_map]
          rfl
        simp only [er] at this
        unfold lI at this
        exact this
/-! ### contract -/
def othM (B : Bas) (columns : Nat) : List Int := (rgI 0 columns).filter fun c => !decide (c ∈ B.map (·.1))
def conR (B : Bas) (columns : Nat) (row : Rw) : Rw := (othM B columns).map fun c => (redM row B).getD c.toNat 0
def lotB (rows : List Rw) (lot : List Int) : Bas := rfM (lot.map fun x => rows.getD x.toNat [])
def conM (rows : List Rw) (columns : Nat) (lot : List Int) : List Rw := rows.map (conR (lotB rows lot) columns)
def conC (rows : List Rw) (columns : Nat) (lot : List Int) : Nat := (othM (lotB rows lot) columns).length
theorem oth_in {B : Bas} {columns : Nat} {c : Int} (h : c ∈ othM B columns) : 0 ≤ c ∧ c < columns := mem_rgI.mp (List.mem_filter.mp h).1
theorem oth_len (B : Bas) (columns : Nat) : (othM B columns).length ≤ columns := by
  have h := List.length_filter_le (fun c => !decide (c ∈ B.map (·.1))) (rgI 0 columns)
  rw [rgI_len] at h
  unfold othM
  omega
theorem conR_res {B : Bas} {columns : Nat} {row : Rw} (hb : BasOk columns B) (h : row.length = columns) : Res (conR B columns row) := by
  intro a ha
  obtain ⟨c, _, rfl⟩ := List.mem_map.mp ha
  exact res_get (redM_ok hb h).2 _
theorem modR_res {r : Rw} (h : Res r) : modR r = r := by
  unfold modR
  have : r.map (· % 97) = r.map id := List.map_congr_left fun a ha => by
    have := h a ha
    show a % 97 = a
    omega
  rw [this, List.map_id]
def g_contract (CT : Addr) : GD := fun ds Q => ∃ (rows : List Rw) (columns : Nat) (lot : List Int), ds = [tabD CT rows columns, tI lot] ∧ TabOk rows columns ∧ lotF rows.length 0 lot = true ∧ freeM rows lot = true ∧ RfGo [] (lot.map fun x => rows.getD x.toNat []) ∧
  Q (tabD CT (conM rows columns lot) (conC rows columns lot))
theorem asc_len {lo hi : Int} : ∀ {l : List Int}, Asc l → (∀ x ∈ l, lo ≤ x ∧ x < hi) → (l.length : Int) ≤ max 0 (hi - lo)
  | [], _, _ => by simp; omega
  | x :: l, h, hb => by
    have h := List.pairwise_cons.mp h
    have hx := hb x List.mem_cons_self
    have := asc_len (lo := x + 1) (hi := hi) h.2 fun y hy => ⟨by have := h.1 y hy; omega, (hb y (List.mem_cons_of_mem _ hy)).2⟩
    rw [List.length_cons]
    omega
theorem sc_contract : FnScope ["table", "lot", "basis", "leading", "column", "_", "others", "rows", "thing", "rest"] ["table", "lot"] (defScope (top 33)) := ⟨rfl, rfl, rfl, by decide +kernel, rfl, by decide +kernel, by decide +kernel⟩
theorem u_contract (T : Txt K mg CT CS CB) : Use P w K mg base "contract" 7 [true, false] (g_contract CT) := by
  have S := sc_contract
  refine T.f_contract.use (k := 6) S rfl fun f cdv A outer s H E hr => ⟨_, _, (dss_cons (ds_if (DTW.t (dw_or (dt_not (dt_val (Use.deK (K := K) (u_is_lot T) hr (da_wk (dr 1) (da_wk (DE.w (de_fldK (K := K) T.c_Table.cls T.c_Table.n_things (dv 0))) da_nil))))) (dw_or1 (dt_not (dt_val (UseM.deK (K := K) (u_Table_free T) hr (dv 0) (da_wk (dr 1) da_nil))))))) dss_never dss_nil)
      (dss_cons (ds_set (i := 2) S.nd (Use.deK (K := K) (u_reduced_form T) hr (da_wk (DE.w (UseM.deK (K := K) (u_Table_rows_of T) hr (dv 0) (da_wk (dr 1) da_nil))) da_nil)))
      (dss_cons (ds_set (i := 3) S.nd (DF.e (df_lc (own := [("column", 4), ("_", 5)]) rfl S.nd (DIp.w (dip_nmK (K := K) 2)) (by kernel_rfl) (fun _ _ _ _ _ => (dg_tupK (K := K) (n := 2) rfl (dgs_cons (dg_name (i := 4) S.nd) (dgs_cons (dg_name (i := 5) S.nd) dgs_nil)))) (fun _ _ _ _ _ => dts_nil) (fun _ _ _ _ _ => (dv 4)))))
      (dss_cons (ds_lcE (i := 6) (own := [("column", 4)]) rfl S.nd (DIp.w (di_rng1 rfl T.b_range (da_wk (DE.w (de_fldK (K := K) T.c_Table.cls T.c_Table.n_columns (dv 0))) da_nil))) (by kernel_rfl) (fun _ _ _ _ _ => (dg_name (i := 4) S.nd)) (fun _ _ _ _ _ => (dts_one (dt_cmp (op_notInK (K := K)) lo_inI (dr 4) (dr 3) rfl))) (fun _ _ _ _ _ => (dv 4)))
      (dss_cons (ds_own (i := 7) S.nd (df_lst da_nil))
      (dss_cons (ds_for PassesOwn.never rfl (di_rng1 rfl T.b_range (da_wk (DE.w (de_fldK (K := K) T.c_Table.cls T.c_Table.n_things (dv 0))) da_nil)) (dg_name (i := 8) S.nd) (dss_cons (ds_set (i := 9) S.nd (Use.deK (K := K) (u_reduced T) hr (da_wk (DE.w (UseM.deK (K := K) (u_Table_row T) hr (dv 0) (da_wk (dr 8) da_nil))) (da_wk (dr 2) da_nil))))
      (dss_one (ds_app (i := 7) (DF.e (df_lc (own := [("column", 4)]) rfl S.nd (DIp.w (dip_nmK (K := K) 6)) (by kernel_rfl) (fun _ _ _ _ _ => (dg_name (i := 4) S.nd)) (fun _ _ _ _ _ => dts_nil) (fun _ _ _ _ _ => (de_ixK (K := K) (dr 9) (dr 4)))))))))
      (dss_one (ds_ret (UseI.deK (K := K) (u_Table T) hr (da_wk (dr 7) (da_wk (DE.w (de_callB (call_lenK (K := K)) lc_len rfl T.b_len (da_wk (dr 6) da_nil))) da_nil))))))))))), fun ds Q hl hg => ?_⟩
  obtain ⟨rows, columns, lot, rfl, ht, hlot, hfree, hgo, q⟩ := hg
  obtain ⟨hasc, hin⟩ := lotF_spec.mp hlot
  have hll : lot.length ≤ 100000 := by
    have := asc_len hasc hin
    have := ht.r
    omega
  subst_eqs
  simp only [tabF_t]
  subst_eqs
  refine ⟨lot, rows.length, rfl, ?_⟩
  rw [hlot]
  subst_eqs
  refine ⟨rfl, rows, columns, lot, rfl, ht, hin, hll, ?_⟩
  rw [hfree]
  subst_eqs
  refine ⟨rfl, rows, columns, lot, rfl, hin, hll, ?_⟩
  refine ⟨columns, _, rfl, by have := ht.c; omega, by rw [List.length_map]; omega, rows_len ht.l hin, hgo, ?_⟩
  have hB : BasOk columns (lotB rows lot) := rf_ok _ _ (by intro b h; cases h) (rows_len ht.l hin) hgo
  have eB : rfM (lot.map fun x => rows.getD x.toNat []) = lotB rows lot := rfl
  rw [eB]
  have hBl : (lotB rows lot).length ≤ 100000 := by
    have : ∀ (l : List Rw) (b : Bas), (l.foldl rfS b).length = b.length + l.length := by
      intro l
      induction l with
      | nil => intro b; simp
      | cons r l ih => intro b; rw [List.foldl_cons, ih, rfS_len, List.length_cons]; omega
    have h := this (lot.map fun x => rows.getD x.toNat []) []
    rw [List.length_map] at h
    show (List.foldl rfS [] _).length ≤ _
    rw [h]
    simpa using hll
  generalize hBg : lotB rows lot = B at hB hBl
  subst_eqs
  refine lcW_map (α := Int × Rw) bD (fun b => D.int b.1) B 0 _ (le_size (by omega)) ?_ ?_
  · rintro ⟨c, r⟩ _ K1 K2 h
    rw [show bD (c, r) = D.tup [D.int c, lI r] from rfl]
    subst_eqs
    exact h
  · simp only [tabF_c]
    subst_eqs
    refine ⟨by have := ht.c; unfold Rg; omega, ?_⟩
    rw [rngD_rgI0]
    have em : B.map (fun b => D.int b.1) = (B.map (·.1)).map D.int := by rw [List.map_map]; rfl
    rw [em]
    refine lcW_filter (α := Int) D.int D.int (fun c => !decide (c ∈ B.map (·.1))) (rgI 0 columns) 0 _ (le_size (by rw [rgI_len]; have := ht.c; omega)) ?_ ?_
    · intro c _ K1 K2 h
      subst_eqs
      refine ⟨B.map (·.1), rfl, ?_⟩
      exact h
    · have eo : (rgI 0 columns).filter (fun c => !decide (c ∈ B.map (·.1))) = othM B columns := rfl
      rw [eo]
      intro a1
      have hol := oth_len B columns
      have htc := ht.c
      have htr := ht.r
      subst_eqs
      refine ⟨by unfold Rg; omega, ?_⟩
      rw [rngD_rgI0]
      have e0 : ([] : List D) = ([] : List Rw).map lI := rfl
      rw [e0]
      refine forW_inv2 (α := Int) (S := List Rw × Sl × Sl) D.int
        (fun s => [.st (tabD CT rows columns), .wk (tI lot), .st (.lst (B.map bD)), .st (.lst ((B.map (·.1)).map .int)), .no, .no, .st (.lst ((othM B columns).map .int)), .ow a1 (s.1.map lI), s.2.1, s.2.2])
        (fun ys xs s => rgI 0 rows.length = ys ++ xs ∧ s.1 = ys.map fun x => conR B columns (rows.getD x.toNat [])) ?_ ?_ (rgI 0 rows.length) [] ([], .no, .no) ⟨rfl, rfl⟩
      · rintro ys ⟨out, z1, z2⟩ ⟨h1, h2⟩
        rw [List.append_nil] at h1
        have h2 : out = ys.map fun x => conR B columns (rows.getD x.toNat []) := h2
        rw [← h1] at h2
        have eout : out = conM rows columns lot := by
          rw [h2]
          unfold conM
          rw [hBg]
          apply List.ext_getElem?
          intro i
          rw [List.getElem?_map, List.getElem?_map]
          unfold rgI
          rw [List.getElem?_map]
          by_cases hi : i < rows.length
          · rw [List.getElem?_range (by omega), List.getElem?_eq_getElem hi]
            show some (conR B columns (rows.getD (0 + (i : Int)).toNat [])) = _
            rw [show (0 + (i : Int)).toNat = i by omega, List.getD_eq_getElem?_getD, List.getElem?_eq_getElem hi]
            rfl
          · rw [List.getElem?_eq_none (by simpa using by omega), List.getElem?_eq_none (by omega)]
            rfl
        subst_eqs
        rw [List.length_map, eout]
        refine ⟨conM rows columns lot, (othM B columns).length, rfl, by omega, by unfold conM; rw [List.length_map]; omega, ?_, ?_⟩
        · intro r hr
          unfold conM at hr
          obtain ⟨x, _, rfl⟩ := List.mem_map.mp hr
          unfold conR
          rw [hBg, List.length_map]
        · have e1 : (conM rows columns lot).map modR = conM rows columns lot := by
            have : ∀ r ∈ conM rows columns lot, modR r = r := fun r hr => by
              unfold conM at hr
              obtain ⟨x, hx, rfl⟩ := List.mem_map.mp hr
              rw [hBg]
              exact modR_res (conR_res hB (ht.l x hx))
            rw [List.map_congr_left (g := id) this, List.map_id]
          rw [e1]
          unfold conC at q
          rw [hBg] at q
          exact q
      · rintro ys x xs ⟨out, z1, z2⟩ J ⟨h1, h2⟩ hJ
        have h2 : out = ys.map fun x => conR B columns (rows.getD x.toNat []) := h2
        have hx := mem_rgI.mp (show x ∈ rgI 0 rows.length by rw [h1]; simp)
        have hlen : ys.length < 13 := by
          have := congrArg List.length h1
          rw [rgI_len, List.length_append, List.length_cons] at this
          omega
        have hrl : (rows.getD x.toNat []).length = columns := by
          rw [List.getD_eq_getElem?_getD, List.getElem?_eq_getElem (by omega)]
          exact ht.l _ (List.getElem_mem _)
        subst_eqs
        refine ⟨rfl, rows, columns, x, rfl, hx.1, hx.2, ?_⟩
        refine ⟨columns, _, B, rfl, by omega, hrl, hB, ?_⟩
        obtain ⟨l1, l2⟩ := redM_ok hB hrl
        unfold lI
        subst_eqs
        refine lcW_map (α := Int) D.int (fun c => D.int ((redM (rows.getD x.toNat []) B).getD c.toNat 0)) (othM B columns) 0 _ (le_size (by omega)) ?_ ?_
        · intro c hc K1 K2 h
          have hc2 := oth_in hc
          subst_eqs
          rw [get_at (r := redM (rows.getD x.toNat []) B) hc2.1 (by omega)]
          exact ⟨_, rfl, h⟩
        · refine ⟨lt_size (by rw [List.length_map, h2, List.length_map]; omega), ?_⟩
          have := hJ (out ++ [conR B columns (rows.getD x.toNat [])], .st (.int x), .st (lI (redM (rows.getD x.toNat []) B))) ⟨by rw [List.append_assoc]; exact h1, by rw [List.map_append, h2]; rfl⟩
          have ec : lI (conR B columns (rows.getD x.toNat [])) = D.lst ((othM B columns).map fun c => D.int ((redM (rows.getD x.toNat []) B).getD c.toNat 0)) := by
            unfold lI conR
            rw [List.map_map]
            rfl
          rw [← ec]
          rw [List.map_append] at this
          exact this
end K87
end
section
set_option Elab.async false
set_option linter.all false
set_option maxRecDepth 100000
/-! K7: ranks. -/
namespace K87
open PySem PySem.Spec PyProof.Rows L2 DL SN
variable {P : Program} {w : World} {K : PySem.W.Frag} {mg : Str → Option Value} {base : Heap} {CT CS CB : Addr}
local macro_rules | `(tactic| subst_eqs) => `(tactic| try simp only [wSeq, wNext, wFor, wRng1, wRng2, wRd, wSt, wC, gNm, gTp, gsNil, gsCons, wLc, wLc2, wSeqI, wPs, wYes, wIf, wIfS, wTru, wTest, wAnd, wOr, wNot, wAndV, wOrV, wNotV, wOp, wI0, wI, wIx, wUn, wNeg, wCatT, wCB, wCF, wOpF, wCatL, wRepL, wLen, wIntOf, wMM, wListOf, wTupOf, wSorted, wK, wCons, wNil, wPar, wNoPart, wPart, wEn, wEnN, wEnT, wZp, wInI, wIsN, wNotN, wDGet, wMeth, wMake, wFldC, wCon, wIsi,
  rdSl_st, rdSl_wk, rdSl_ow, rdSl_oT, stSl_st, stSl_wk, truD_bl, truD_int, truD_lst, truD_tup, truD_non, lenD_lst, lenD_tup, lenD_scr, walkD_lst, walkD_tup, seqD_lst, seqD_tup, seqD_scr, solid_int, solid_bl, solid_tup, solid_ins, solid_non, solid_str, isNon_non, isNon_lst, isNon_tup, isNon_int, isNon_bl, frz_ow0, frz_succ, frzS_st, frzS_wk, frzS_ow, frzS_oT, frzS_no,
  startD, startS, wipeD, List.set_cons_zero, List.set_cons_succ, List.getElem?_cons_zero, List.getElem?_cons_succ, List.length_cons, List.length_nil, List.cons_append, List.nil_append, List.map_cons, List.map_nil, List.replicate, Nat.reduceSub, Nat.reduceAdd, Option.some.injEq, Sl.st.injEq, Sl.wk.injEq, Sl.ow.injEq, Sl.oT.injEq, Sl.oI.injEq, D.int.injEq, D.lst.injEq, D.tup.injEq, D.bl.injEq, D.dT.injEq, D.ins.injEq, List.cons.injEq, exists_eq_left, exists_eq_left', exists_eq_right, exists_eq_right', exists_and_left, exists_and_right, and_assoc, decide_eq_true_eq, and_true, true_and, and_self, reduceIte, ite_true, ite_false, Bool.false_eq_true, reduceCtorEq, exists_false, false_and, and_false, exists_const, forall_const])

/-- the rank of an item, as the key function tells it -/
def rkD : NK → PyData
  | .tup [.num n, l] => .tuple [.int (-n), l.data]
  | _ => .none
def IsItem (k : NK) : Prop := ∃ n l, k = .tup [.num n, l]
theorem rank_key {f : Addr} {fd : FuncData} (F : FunD K "rank" "rank" (defArgs (top 13)) (defBody (top 13)) (defScope (top 13)) [] [] f fd) (b : Binds K fd ["item"] []) : KeyFn P w K f IsItem rkD := by
  intro A s v k X hlim hroom ⟨n, l, hk⟩ hv
  subst hk
  cases hv with
  | @tup a o vs n0 _ hg hc hd hks =>
    obtain ⟨v1, v2, ev, h1, h2⟩ : ∃ v1 v2, vs.toList = [v1, v2] ∧ KeyH s.heap (.num n) v1 ∧ KeyH s.heap l v2 := by
      generalize vs.toList = l0 at hks
      cases hks with
      | cons a b => cases b with
        | cons b c => cases c; exact ⟨_, _, rfl, a, b⟩
    cases h1 with
    | int _ t =>
      obtain ⟨oc, od, dV, kV, doc, pm, an, cdv, ct, osl, rfl, lk, hcd, _, _⟩ := F.ex
      refine wpAny_call (Att.call_fn (binds := [("item", .ref a)]) X hlim lk hcd (by omega) (b s [.ref a] X rfl) (by first | rfl | decide | with_unfolding_all rfl) (fun s₁ IC => ?_) rfl rfl rfl)
      obtain ⟨h₁, tk₁, rfl⟩ := IC.toInCall.same
      have kp : ∀ b o, s.heap.get? b = some o → h₁.get? b = some o := IC.toInCall.keep
      have hn := IC.toInCall.ns
      have ha : h₁.get? a = some o := kp _ _ hg
      have evs : vs = #[.int n t, v2] := by rw [← Array.toArray_toList (xs := vs), ev]
      have ht : IsTup h₁ a #[.int n t, v2] := ⟨o, ha, hc, n0, by rw [hd, evs]⟩
      have look : ∀ {A : Around} {E : Value → Shared → Prop} {tk : Nat} {pos : Pos} {Q : Value → Shared → Prop}, Q (.ref a) { s with heap := h₁, toks := tk } → wpAny (model P w) A (eval (.Name "item" pos) (envOfC "rank" (defScope (top 13)) s.heap.objs.size f cdv)) Q E { s with heap := h₁, toks := tk } := fun {A E tk pos Q} q =>
        wpAny_Name (wpAny_loadName_local (v := .ref a) rfl rfl hn (by first | rfl | with_unfolding_all rfl | kernel_rfl) q) (by decide)
      show wpAny _ _ (execs _ _) _ _ _
      refine wpAny_execs_cons (wpAny_Return_some (wpAny_Tuple ?_))
      have bound : ∀ (i : Int), 0 ≤ i → i ≤ 1 → -(2 ^ 63) ≤ i ∧ i < 2 ^ 63 := fun i h1 h2 => ⟨by omega, by omega⟩
      refine Calls.spliced_cons (UnaryOp_ (Subscript_ (look (tk := tk₁) (wpAny_Constant_int ?_))))
      refine subscriptTail_builtinR (x := .int n t) (show Shared.TypeIs _ (.ref a) "tuple" from ht.typeIs) PySem.F.slot_tuple_getitem.lookup (PyProof.Rows.getItem_tuple (j := 0) ht (bound 0 (by decide) (by decide)).1 (bound 0 (by decide) (by decide)).2 rfl rfl ⟨rfl, neg_int ?_⟩) (by first | rfl | with_unfolding_all rfl)
      refine Calls.spliced_cons (Subscript_ (look (wpAny_Constant_int ?_)))
      refine subscriptTail_builtinR (x := v2) (show Shared.TypeIs _ (.ref a) "tuple" from ht.typeIs) PySem.F.slot_tuple_getitem.lookup (PyProof.Rows.getItem_tuple (j := 1) ht (bound 1 (by decide) (by decide)).1 (bound 1 (by decide) (by decide)).2 rfl rfl ⟨rfl, ?_⟩) (by first | rfl | with_unfolding_all rfl)
      refine Calls.spliced_nil ⟨by show 2 ≤ sizeLine; decide, ?_⟩
      have h2' : ∀ tk, KeyH (h₁.push { cls := .type "tuple", data := .seq #[Value.int (-n) tk, v2] }) l v2 := fun tk => h2.stayD fun c o vs n hc _ => Heap.get?_push_of_some _ (kp _ _ hc)
      refine ⟨_, _, rfl, fun b o e => Heap.get?_push_of_some _ (kp b o e), ?_⟩
      exact .tuple (Heap.get?_push_size _ rfl) rfl rfl (.cons (as := []) (bs := []) (.int _ _) (.cons (as := []) (bs := []) (h2' _).reads .nil))
/-! ### items -/
abbrev Item := Int × List Int
def itD (i : Item) : D := .tup [.int i.1, tI i.2]
def itK (i : Item) : NK := .tup [.num i.1, .tup (i.2.map .num)]
theorem dK_nums : ∀ l : List Int, dKs (l.map NestedKey.num) = l.map D.int
  | [] => by rw [List.map_nil, dKs]; rfl
  | x :: l => by rw [List.map_cons, dKs, dK_nums l, dK]; rfl
theorem dK_it (i : Item) : dK (itK i) = itD i := by
  unfold itK itD tI
  rw [dK, dKs, dKs, dKs, dK, dK, dK_nums]
theorem datas_nums : ∀ l : List Int, NestedKey.datas (l.map NestedKey.num) = l.map PyData.int
  | [] => by rw [List.map_nil, NestedKey.datas]; rfl
  | x :: l => by rw [List.map_cons, NestedKey.datas, datas_nums l, NestedKey.data]; rfl
theorem data_it (i : Item) : (itK i).data = .tuple [.int i.1, .tuple (i.2.map .int)] := by
  unfold itK
  rw [NestedKey.data, NestedKey.datas, NestedKey.datas, NestedKey.datas, NestedKey.data, NestedKey.data, datas_nums]
theorem rkD_it (i : Item) : rkD (itK i) = .tuple [.int (-i.1), .tuple (i.2.map .int)] := by
  show PyData.tuple [.int (-i.1), (NestedKey.tup (i.2.map .num)).data] = _
  rw [NestedKey.data, datas_nums]
theorem plain_nums : ∀ l : List Int, plainKs (l.map NestedKey.num) = true
  | [] => by rw [List.map_nil, plainKs]
  | x :: l => by rw [List.map_cons, plainKs, plain_nums l, plainK]; rfl
theorem depth_nums : ∀ l : List Int, NestedKey.depthAll (l.map NestedKey.num) = 0
  | [] => by rw [List.map_nil, NestedKey.depthAll]
  | x :: l => by rw [List.map_cons, NestedKey.depthAll, depth_nums l, NestedKey.depth]; rfl
theorem okK_it (i : Item) : OkK (itK i) := by
  refine ⟨⟨_, rfl⟩, ?_, ?_⟩
  · unfold itK
    rw [plainK, plainKs, plainKs, plainKs, plainK, plainK, plain_nums]
    rfl
  · unfold itK
    rw [NestedKey.depth, NestedKey.depthAll, NestedKey.depthAll, NestedKey.depthAll, NestedKey.depth, NestedKey.depth, depth_nums]
    decide
theorem alike_ints : ∀ a b : List Int, PySem.W.alikeAll (a.map PyData.int) (b.map .int) = true
  | [], _ => by rw [List.map_nil, PySem.W.alikeAll]
  | _ :: _, [] => by rw [List.map_cons, List.map_nil, PySem.W.alikeAll]
  | x :: a, y :: b => by rw [List.map_cons, List.map_cons, PySem.W.alikeAll, alike_ints a b, PySem.W.alike]; rfl
theorem alike_pair (x y : Int) (a b : List Int) : PySem.W.alike (.tuple [.int x, .tuple (a.map .int)]) (.tuple [.int y, .tuple (b.map .int)]) = true := by
  rw [PySem.W.alike, PySem.W.alikeAll, PySem.W.alikeAll, PySem.W.alike, PySem.W.alike, alike_ints, PySem.W.alikeAll]
  rfl
theorem eqvAll_ints : ∀ a b : List Int, PyData.eqvAll (a.map .int) (b.map .int) = decide (a = b)
  | [], [] => by simp [PyData.eqvAll]
  | [], _ :: _ => by simp [PyData.eqvAll]
  | _ :: _, [] => by simp [PyData.eqvAll]
  | x :: a, y :: b => by
    rw [List.map_cons, List.map_cons, PyData.eqvAll, eqvAll_ints a b, PyData.eqv]
    by_cases h : x = y <;> by_cases h2 : a = b <;> simp [h, h2]
theorem depth_ints : ∀ a : List Int, PyData.depthAll (a.map .int) = 0
  | [] => by simp [PyData.depthAll]
  | x :: a => by rw [List.map_cons, PyData.depthAll, depth_ints a]; simp [PyData.depth]
theorem depth_pair (x : Int) (a : List Int) : (PyData.tuple [.int x, .tuple (a.map .int)]).depth ≤ 8 := by
  simp only [PyData.depth, PyData.depthAll, depth_ints]
  decide
/-- a ranks before b -/
def bef (a b : Item) : Bool := if a.1 ≠ b.1 then decide (b.1 < a.1) else decide (a.2 < b.2)
theorem kLe_rk (a b : Item) : kLe rkD (itK a) (itK b) ↔ bef b a = false := by
  unfold kLe
  rw [PySem.W.dataLe_eq]
  show (!PySem.W.dataLt (rkD (itK b)) (rkD (itK a))) = true ↔ _
  rw [rkD_it, rkD_it, PySem.W.dataLt_pair (by rw [PySem.W.alike]) (by rw [PySem.W.alike]; exact alike_ints _ _), PySem.W.dataLt_int, PyData.eqv, PyData.eqv, eqvAll_ints, PySem.W.dataLt_tuple]
  rw [show PyProof.Rows.lexLt PyProof.Rows.itemOrd (PySem.W.keyToksAll (b.2.map .int)) (PySem.W.keyToksAll (a.2.map .int)) = PySem.W.rowLt (b.2.map .int) (a.2.map .int) from rfl, PySem.W.dataLt_ints]
  unfold bef
  by_cases h : b.1 = a.1
  · have e : ((-b.1) == (-a.1)) = true := by simp [h]
    have eb : (if b.1 ≠ a.1 then decide (a.1 < b.1) else decide (b.2 < a.2)) = decide (b.2 < a.2) := if_neg (by simpa using h)
    rw [e, if_pos rfl, eb]
    by_cases h2 : b.2 = a.2
    · have hn : ¬ a.2 < a.2 := List.lt_irrefl _
      simp [h2, hn]
    · simp [h2]
  · have e : ((-b.1) == (-a.1)) = false := by simp; omega
    have eb : (if b.1 ≠ a.1 then decide (a.1 < b.1) else decide (b.2 < a.2)) = decide (a.1 < b.1) := if_pos h
    rw [e, if_neg Bool.false_ne_true, eb]
    by_cases h2 : a.1 < b.1
    · have h3 : -b.1 < -a.1 := by omega
      simp [h2, h3]
    · have h3 : ¬ -b.1 < -a.1 := by omega
      simp [h2, h3]
def SortedR (l : List Item) : Prop := l.Pairwise fun a b => bef a b = true
theorem bef_irrefl (a : Item) : bef a a = false := by
  unfold bef
  rw [if_neg (by simp)]
  exact decide_eq_false (List.lt_irrefl _)
theorem bef_trans {a b c : Item} (h1 : bef a b = true) (h2 : bef b c = true) : bef a c = true := by
  unfold bef at *
  by_cases e1 : a.1 = b.1
  · rw [if_neg (by simpa using e1), decide_eq_true_eq] at h1
    by_cases e2 : b.1 = c.1
    · rw [if_neg (by simpa using e2), decide_eq_true_eq] at h2
      rw [if_neg (by simpa using e1.trans e2), decide_eq_true_eq]
      exact List.lt_trans h1 h2
    · rw [if_pos e2, decide_eq_true_eq] at h2
      rw [if_pos (by omega), decide_eq_true_eq]
      omega
  · rw [if_pos e1, decide_eq_true_eq] at h1
    by_cases e2 : b.1 = c.1
    · rw [if_pos (by omega), decide_eq_true_eq]
      omega
    · rw [if_pos e2, decide_eq_true_eq] at h2
      rw [if_pos (by omega), decide_eq_true_eq]
      omega
theorem bef_total {a b : Item} (h : a ≠ b) : bef a b = true ∨ bef b a = true := by
  unfold bef
  by_cases e1 : a.1 = b.1
  · rw [if_neg (by simpa using e1), if_neg (by simpa using e1.symm)]
    have e2 : a.2 ≠ b.2 := fun z => h (Prod.ext e1 z)
    rcases Classical.em (a.2 < b.2) with c | c
    · exact .inl (decide_eq_true c)
    · exact .inr (decide_eq_true (by
        rcases List.le_total a.2 b.2 with d | d
        · exact absurd (List.le_antisymm d (List.not_lt.mp c)) e2
        · exact List.not_le.mp fun z => e2 (List.le_antisymm z (List.not_lt.mp c))))
  · rw [if_pos e1, if_pos (fun z => e1 z.symm)]
    rcases Int.lt_or_gt_of_ne e1 with c | c
    · exact .inr (decide_eq_true c)
    · exact .inl (decide_eq_true c)
theorem sortedR_uniq : ∀ {l m : List Item}, SortedR l → SortedR m → (∀ x, x ∈ l ↔ x ∈ m) → l = m
  | [], [], _, _, _ => rfl
  | [], y :: m, _, _, h => absurd ((h y).mpr List.mem_cons_self) (by simp)
  | x :: l, [], _, _, h => absurd ((h x).mp List.mem_cons_self) (by simp)
  | x :: l, y :: m, hl, hm, h => by
    have hl' := List.pairwise_cons.mp hl
    have hm' := List.pairwise_cons.mp hm
    have exy : x = y := by
      rcases List.mem_cons.mp ((h x).mp List.mem_cons_self) with e | e
      · exact e
      · rcases List.mem_cons.mp ((h y).mpr List.mem_cons_self) with e2 | e2
        · exact e2.symm
        · have a := hm'.1 x e
          have b := hl'.1 y e2
          have := bef_trans a b
          rw [bef_irrefl] at this
          cases this
    subst exy
    congr 1
    refine sortedR_uniq hl'.2 hm'.2 fun z => ⟨fun hz => ?_, fun hz => ?_⟩
    · rcases List.mem_cons.mp ((h z).mp (List.mem_cons_of_mem _ hz)) with e | e
      · subst e
        have := hl'.1 z hz
        rw [bef_irrefl] at this
        cases this
      · exact e
    · rcases List.mem_cons.mp ((h z).mpr (List.mem_cons_of_mem _ hz)) with e | e
      · subst e
        have := hm'.1 z hz
        rw [bef_irrefl] at this
        cases this
      · exact e
/-- put in by rank, once -/
def insR (i : Item) : List Item → List Item
  | [] => [i]
  | j :: l => if bef j i = true then j :: insR i l else if i = j then j :: l else i :: j :: l
def rkM (items : List Item) : List Item := items.foldl (fun l i => insR i l) []
theorem mem_insR {i x : Item} : ∀ {l : List Item}, x ∈ insR i l ↔ x = i ∨ x ∈ l
  | [] => by simp [insR]
  | j :: l => by
    unfold insR
    by_cases c : bef j i = true
    · rw [if_pos c, List.mem_cons, mem_insR, List.mem_cons]
      constructor
      · rintro (h | h | h)
        · exact .inr (.inl h)
        · exact .inl h
        · exact .inr (.inr h)
      · rintro (h | h | h)
        · exact .inr (.inl h)
        · exact .inl h
        · exact .inr (.inr h)
    · rw [if_neg c]
      by_cases e : i = j
      · subst e
        rw [if_pos rfl]
        simp
      · rw [if_neg e]
        simp
theorem sorted_insR {i : Item} : ∀ {l : List Item}, SortedR l → SortedR (insR i l)
  | [], _ => List.pairwise_singleton _ _
  | j :: l, h => by
    have h' := List.pairwise_cons.mp h
    unfold insR
    by_cases c : bef j i = true
    · rw [if_pos c]
      refine List.pairwise_cons.mpr ⟨fun x hx => ?_, sorted_insR h'.2⟩
      rcases mem_insR.mp hx with e | e
      · rw [e]; exact c
      · exact h'.1 x e
    · rw [if_neg c]
      by_cases e : i = j
      · rw [if_pos e]; exact h
      · rw [if_neg e]
        have hij : bef i j = true := (bef_total e).resolve_right c
        refine List.pairwise_cons.mpr ⟨fun x hx => ?_, h⟩
        rcases List.mem_cons.mp hx with e2 | e2
        · rw [e2]; exact hij
        · exact bef_trans hij (h'.1 x e2)
theorem rkM_spec (items : List Item) : SortedR (rkM items) ∧ ∀ x, x ∈ rkM items ↔ x ∈ items := by
  have go : ∀ (l acc : List Item), SortedR acc → SortedR (l.foldl (fun l i => insR i l) acc) ∧ ∀ x, x ∈ l.foldl (fun l i => insR i l) acc ↔ x ∈ acc ∨ x ∈ l := by
    intro l
    induction l with
    | nil => intro acc h; exact ⟨h, fun x => by simp⟩
    | cons i l ih =>
      intro acc h
      obtain ⟨h1, h2⟩ := ih (insR i acc) (sorted_insR h)
      refine ⟨h1, fun x => ?_⟩
      rw [List.foldl_cons, h2, mem_insR, List.mem_cons]
      constructor
      · rintro ((h | h) | h)
        · exact .inr (.inl h)
        · exact .inl h
        · exact .inr (.inr h)
      · rintro (h | h | h)
        · exact .inl (.inr h)
        · exact .inl (.inl h)
        · exact .inr h
  obtain ⟨h1, h2⟩ := go items [] .nil
  exact ⟨h1, fun x => by rw [show rkM items = items.foldl (fun l i => insR i l) [] from rfl, h2]; simp⟩
theorem itK_inj {a b : Item} (h : itK a = itK b) : a = b := by
  unfold itK at h
  injection h with h
  injection h with h1 h2
  injection h1 with h1
  injection h2 with h2
  injection h2 with h2
  exact Prod.ext h1 (List.map_inj_right (fun _ _ z => by injection z) |>.mp h2)
theorem srt_it (items : List Item) : Srt NestedKey.data (items.map itK) := by
  refine ⟨fun d hd d2 hd2 => ?_, .inl fun d hd => ?_, fun k hk => ?_⟩
  · rw [List.map_map] at hd hd2
    obtain ⟨i, _, rfl⟩ := List.mem_map.mp hd
    obtain ⟨j, _, rfl⟩ := List.mem_map.mp hd2
    show PySem.W.alike (itK i).data (itK j).data = true
    rw [data_it, data_it]
    exact alike_pair _ _ _ _
  · rw [List.map_map] at hd
    obtain ⟨i, _, rfl⟩ := List.mem_map.mp hd
    exact ⟨_, _, data_it i⟩
  · obtain ⟨i, _, rfl⟩ := List.mem_map.mp hk
    rw [data_it]
    exact depth_pair _ _
theorem srt_rk (items : List Item) : Srt rkD (items.map itK) := by
  refine ⟨fun d hd d2 hd2 => ?_, .inl fun d hd => ?_, fun k hk => ?_⟩
  · rw [List.map_map] at hd hd2
    obtain ⟨i, _, rfl⟩ := List.mem_map.mp hd
    obtain ⟨j, _, rfl⟩ := List.mem_map.mp hd2
    show PySem.W.alike (rkD (itK i)) (rkD (itK j)) = true
    rw [rkD_it, rkD_it]
    exact alike_pair _ _ _ _
  · rw [List.map_map] at hd
    obtain ⟨i, _, rfl⟩ := List.mem_map.mp hd
    exact ⟨_, _, rkD_it i⟩
  · obtain ⟨i, _, rfl⟩ := List.mem_map.mp hk
    rw [rkD_it]
    exact depth_pair _ _
theorem items_of : ∀ {keys : List NK} {items : List Item}, (∀ k ∈ keys, k ∈ items.map itK) → ∃ l : List Item, keys = l.map itK
  | [], _, _ => ⟨[], rfl⟩
  | k :: keys, items, h => by
    obtain ⟨i, _, rfl⟩ := List.mem_map.mp (h k List.mem_cons_self)
    obtain ⟨l, rfl⟩ := items_of (items := items) fun j hj => h j (List.mem_cons_of_mem _ hj)
    exact ⟨i :: l, rfl⟩
theorem nodup_le {α : Type} [DecidableEq α] : ∀ {l m : List α}, l.Nodup → (∀ x ∈ l, x ∈ m) → l.length ≤ m.length
  | [], m, _, _ => Nat.zero_le _
  | x :: l, m, h, hs => by
    obtain ⟨h1, h2⟩ := List.nodup_cons.mp h
    have hx := hs x List.mem_cons_self
    have := nodup_le (m := m.erase x) h2 fun y hy => (List.mem_erase_of_ne (show y ≠ x from fun z => h1 (by rw [← z]; exact hy))).mpr (hs y (List.mem_cons_of_mem _ hy))
    rw [List.length_erase_of_mem hx] at this
    have := List.length_pos_of_mem hx
    rw [List.length_cons]
    omega
def g_ranked : GD := fun ds Q => ∃ (items : List Item), ds = [.lst (items.map itD)] ∧ items.length < 64 ∧ Q (.lst ((rkM items).map itD))
theorem items_dK (l : List Item) : (l.map itK).map dK = l.map itD := by
  rw [List.map_map]
  exact List.map_congr_left fun i _ => dK_it i
theorem sc_ranked : FnScope ["items"] ["items"] (defScope (top 14)) := ⟨rfl, rfl, rfl, by decide +kernel, rfl, by decide +kernel, by decide +kernel⟩
theorem u_ranked (T : Txt K mg CT CS CB) : Use P w K mg base "ranked" 3 [false] g_ranked := by
  have S := sc_ranked
  obtain ⟨fr, fdr, Fr, hmr, hbr⟩ := T.f_rank
  refine T.f_ranked.use (k := 2) S rfl fun f cdv A outer s H E hr => ⟨_, _, (dss_one (ds_ret (DF.e (df_sortKey (j := 2) hr (rank_key Fr hbr) rfl T.b_sorted rfl hmr (DF.w (df_sortSet (j := 2) hr rfl rfl T.b_sorted rfl T.b_set (dr 0))))))), fun ds Q hl hg => ?_⟩
  obtain ⟨items, rfl, h64, q⟩ := hg
  unfold wSortKey wSortSet
  subst_eqs
  refine ⟨items.map itK, (items_dK items).symm, fun k hk => ?_, by rw [List.length_map]; exact h64, srt_it items, fun out nd mem pw => ?_⟩
  · obtain ⟨i, _, rfl⟩ := List.mem_map.mp hk
    exact okK_it i
  · obtain ⟨l, rfl⟩ := items_of fun k hk => (mem k).mp hk
    have hlen : l.length ≤ 63 := by
      have h1 : (l.map itK).length ≤ (items.map itK).length := nodup_le nd fun k hk => (mem k).mp hk
      rw [List.length_map, List.length_map] at h1
      omega
    refine ⟨l.map itK, rfl, fun k hk => ?_, srt_rk l, by rw [List.length_map, sizeLine_eq]; omega, fun out2 pm pw2 => ?_⟩
    · obtain ⟨i, _, rfl⟩ := List.mem_map.mp hk
      exact ⟨okK_it i, _, _, rfl⟩
    · obtain ⟨m, rfl⟩ := items_of fun k hk => pm.mem_iff.mp hk
      have ndm : (m.map itK).Nodup := pm.nodup_iff.mpr nd
      have e : m = rkM items := by
        obtain ⟨r1, r2⟩ := rkM_spec items
        refine sortedR_uniq ?_ r1 fun x => ?_
        · have pw3 := List.pairwise_map.mp pw2
          have nd3 := List.pairwise_map.mp ndm
          refine (List.pairwise_and_iff.mpr ⟨pw3, nd3⟩).imp fun {a b} ⟨h1, h2⟩ => ?_
          exact (bef_total fun z => h2 (congrArg itK z)).resolve_right (by rw [(kLe_rk a b).mp h1]; exact Bool.false_ne_true)
        · rw [r2]
          have hk := (pm.mem_iff (a := itK x)).trans (mem (itK x))
          constructor
          · intro hx
            obtain ⟨y, hy, e⟩ := List.mem_map.mp (hk.mp (List.mem_map.mpr ⟨x, hx, rfl⟩))
            rw [← itK_inj e]; exact hy
          · intro hx
            obtain ⟨y, hy, e⟩ := List.mem_map.mp (hk.mpr (List.mem_map.mpr ⟨x, hx, rfl⟩))
            rw [← itK_inj e]; exact hy
      rw [items_dK, e]
      exact q
end K87
end
section
set_option Elab.async false
set_option linter.all false
set_option maxRecDepth 100000
/-! K8: kept lists. -/
namespace K87
open PySem PySem.Spec PyProof.Rows L2 DL SN
variable {P : Program} {w : World} {K : PySem.W.Frag} {mg : Str → Option Value} {base : Heap} {CT CS CB : Addr}
local macro_rules | `(tactic| subst_eqs) => `(tactic| try simp only [wSeq, wNext, wFor, wRng1, wRng2, wRd, wSt, wC, gNm, gTp, gsNil, gsCons, wLc, wLc2, wSeqI, wPs, wYes, wIf, wIfS, wTru, wTest, wAnd, wOr, wNot, wAndV, wOrV, wNotV, wOp, wI0, wI, wIx, wUn, wNeg, wCatT, wCB, wCF, wOpF, wCatL, wRepL, wLen, wIntOf, wMM, wListOf, wTupOf, wSorted, wK, wCons, wNil, wPar, wNoPart, wPart, wEn, wEnN, wEnT, wZp, wInI, wIsN, wNotN, wDGet, wMeth, wMake, wFldC, wCon, wIsi,
  rdSl_st, rdSl_wk, rdSl_ow, rdSl_oT, stSl_st, stSl_wk, truD_bl, truD_int, truD_lst, truD_tup, truD_non, lenD_lst, lenD_tup, lenD_scr, walkD_lst, walkD_tup, seqD_lst, seqD_tup, seqD_scr, solid_int, solid_bl, solid_tup, solid_ins, solid_non, solid_str, isNon_non, isNon_lst, isNon_tup, isNon_int, isNon_bl, frz_ow0, frz_succ, frzS_st, frzS_wk, frzS_ow, frzS_oT, frzS_no,
  startD, startS, wipeD, List.set_cons_zero, List.set_cons_succ, List.getElem?_cons_zero, List.getElem?_cons_succ, List.length_cons, List.length_nil, List.cons_append, List.nil_append, List.map_cons, List.map_nil, List.replicate, Nat.reduceSub, Nat.reduceAdd, Option.some.injEq, Sl.st.injEq, Sl.wk.injEq, Sl.ow.injEq, Sl.oT.injEq, Sl.oI.injEq, D.int.injEq, D.lst.injEq, D.tup.injEq, D.bl.injEq, D.dT.injEq, D.ins.injEq, List.cons.injEq, exists_eq_left, exists_eq_left', exists_eq_right, exists_eq_right', exists_and_left, exists_and_right, and_assoc, decide_eq_true_eq, and_true, true_and, and_self, reduceIte, ite_true, ite_false, Bool.false_eq_true, reduceCtorEq, exists_false, false_and, and_false, exists_const, forall_const])

theorem chs_few : ∀ c < 7, ∀ n < 7, (chs ((c : Nat) : Int) n).length ≤ 20 := by decide +kernel
abbrev lotR (rows : List Rw) (lot : List Int) : List Rw := lot.map fun x => rows.getD x.toNat []
def itR (rows : List Rw) (columns : Nat) (i : Item) : Rw := mnM (lotR rows i.2) columns
def kepM (rows : List Rw) (columns : Nat) (items : List Item) : List Item := (idxM ((rkM items).map (itR rows columns))).2.map fun ix => (rkM items).getD ix.toNat (0, [])
theorem idx_in (rows : List Rw) : ∀ ix ∈ (idxM rows).2, 0 ≤ ix ∧ ix < rows.length := by
  have go : ∀ (l : List (Nat × Rw)) (s : List (Int × Rw) × List Int), (∀ p ∈ l, p.1 < rows.length) → (∀ ix ∈ s.2, 0 ≤ ix ∧ ix < rows.length) → ∀ ix ∈ (l.foldl idxS s).2, 0 ≤ ix ∧ ix < rows.length := by
    intro l
    induction l with
    | nil => intro s _ h; exact h
    | cons p l ih =>
      intro s hl h
      refine ih (idxS s p) (fun q hq => hl q (List.mem_cons_of_mem _ hq)) ?_
      unfold idxS
      by_cases c : 0 ≤ pvM (redM p.2 s.1)
      · rw [if_pos c]
        intro ix hix
        rcases List.mem_append.mp hix with h1 | h1
        · exact h ix h1
        · rw [List.mem_singleton.mp h1]
          have := hl p List.mem_cons_self
          omega
      · rw [if_neg c]; exact h
  refine go (enL 0 rows) ([], []) (fun p hp => ?_) (fun ix h => nomatch h)
  obtain ⟨k, hk⟩ := List.mem_iff_getElem?.mp hp
  rw [enL_get] at hk
  obtain ⟨x, h1, h2⟩ := Option.map_eq_some_iff.mp hk
  rw [← h2]
  show 0 + k < rows.length
  rw [Nat.zero_add]
  exact (List.getElem?_eq_some_iff.mp h1).1
def g_kept_list (CT CS : Addr) : GD := fun ds Q => ∃ (rows : List Rw) (columns size : Nat) (items : List Item), ds = [schD CS CT rows columns size, .lst (items.map itD)] ∧ TabOk rows columns ∧ size ≤ columns ∧ items.length < 64 ∧ (∀ i ∈ items, i.2.length = size ∧ lotF rows.length 0 i.2 = true) ∧
  Q (.lst ((kepM rows columns items).map itD))
theorem itD_1 (i : Item) : atI [D.int i.1, tI i.2] 1 = some (tI i.2) := rfl
theorem rkM_len {items : List Item} : (rkM items).length ≤ items.length := by
  obtain ⟨r1, r2⟩ := rkM_spec items
  refine nodup_le ?_ fun x hx => (r2 x).mp hx
  exact r1.imp fun {a b} h z => by rw [z, bef_irrefl] at h; cases h
theorem sc_kept_list : FnScope ["scheme", "items", "item", "order", "rows", "worth", "lot", "index"] ["scheme", "items"] (defScope (top 25)) := ⟨rfl, rfl, rfl, by decide +kernel, rfl, by decide +kernel, by decide +kernel⟩
theorem u_kept_list (T : Txt K mg CT CS CB) : Use P w K mg base "kept_list" 5 [true, false] (g_kept_list CT CS) := by
  have S := sc_kept_list
  obtain ⟨uex, hex⟩ := T.c_Scheme.exact_
  refine T.f_kept_list.use (k := 4) S rfl fun f cdv A outer s H E hr => ⟨_, _, (dss_cons (ds_for PassesOwn.never rfl (dip_nmK (K := K) 1) (dg_name (i := 2) S.nd) (dss_one (ds_expr (DE.w (UseM.deK (K := K) (u_Scheme_check T) hr (dv 0) (da_wk (DE.w (de_ixK (K := K) (dr 2) (DE.w de_int))) da_nil))))))
      (dss_cons (ds_set (i := 3) S.nd (Use.deK (K := K) (u_ranked T) hr (da_wk (dr 1) da_nil)))
      (dss_cons (ds_if (dt_val (de_conK (K := K) T.c_Scheme.cls hex (fun _ => .bl false) (dv 0))) dss_never dss_nil)
      (dss_one (ds_ret (DF.e (df_lc (own := [("index", 7)]) rfl S.nd (DIp.w (dip_seqK (K := K) (Use.deK (K := K) (u_independent_indexes T) hr (da_wk (DF.w (df_lc (own := [("item", 2)]) rfl S.nd (DIp.w (dip_nmK (K := K) 3)) (by kernel_rfl) (fun _ _ _ _ _ => (dg_name (i := 2) S.nd)) (fun _ _ _ _ _ => dts_nil) (fun _ _ _ _ _ => (UseM.deK (K := K) (u_Scheme_row T) hr (dv 0) (da_wk (DE.w (de_ixK (K := K) (dr 2) (DE.w de_int))) da_nil))))) da_nil)))) (by kernel_rfl) (fun _ _ _ _ _ => (dg_name (i := 7) S.nd)) (fun _ _ _ _ _ => dts_nil) (fun _ _ _ _ _ => (de_ixK (K := K) (dr 3) (dr 7)))))))))), fun ds Q hl hg => ?_⟩
  obtain ⟨rows, columns, size, items, rfl, ht, hsz, h64, hit, q⟩ := hg
  have htc := ht.c
  subst_eqs
  refine forW_inv (α := Item) (S := Sl) itD (fun s => [.st (schD CS CT rows columns size), .wk (.lst (items.map itD)), s, .no, .no, .no, .no, .no]) (fun xs _ => ∀ i ∈ xs, i.2.length = size ∧ lotF rows.length 0 i.2 = true) ?_ ?_ items .no hit
  · intro z _
    subst_eqs
    refine ⟨items, rfl, h64, ?_⟩
    subst_eqs
    refine ⟨rfl, ?_⟩
    have hrl : ∀ i ∈ rkM items, i.2.length = size ∧ lotF rows.length 0 i.2 = true := fun i hi => hit i (((rkM_spec items).2 i).mp hi)
    have hlen := rkM_len (items := items)
    refine lcW_map (α := Item) itD (fun i => lI (itR rows columns i)) (rkM items) 0 _ (le_size (by omega)) ?_ ?_
    · intro i hi K1 K2 h
      unfold itD
      subst_eqs
      rw [itD_1]
      exact ⟨rfl, _, rfl, rows, columns, size, i.2, rfl, ht, (hrl i hi).1, hsz, (hrl i hi).2, h⟩
    · have em : (rkM items).map (fun i => lI (itR rows columns i)) = ((rkM items).map (itR rows columns)).map lI := by rw [List.map_map]; rfl
      rw [em]
      refine ⟨(chs columns size).length, _, rfl, by have := chs_few columns (by omega) size (by omega); omega, by rw [List.length_map]; omega, fun r hr => ?_, ?_⟩
      · obtain ⟨i, hi, rfl⟩ := List.mem_map.mp hr
        unfold itR mnM
        rw [List.length_map, List.length_map, (hrl i hi).1]
      · unfold lI
        subst_eqs
        have hin := idx_in ((rkM items).map (itR rows columns))
        rw [List.length_map] at hin
        have hil : (idxM ((rkM items).map (itR rows columns))).2.length ≤ 100000 := by
          have go : ∀ (l : List (Nat × Rw)) (s : List (Int × Rw) × List Int), (l.foldl idxS s).2.length ≤ s.2.length + l.length := by
            intro l
            induction l with
            | nil => intro s; exact Nat.le_refl _
            | cons p l ih =>
              intro s
              have h1 := ih (idxS s p)
              have h2 : (idxS s p).2.length ≤ s.2.length + 1 := by
                unfold idxS
                by_cases c : 0 ≤ pvM (redM p.2 s.1)
                · rw [if_pos c]; simp
                · rw [if_neg c]; omega
              rw [List.foldl_cons, List.length_cons]
              omega
          have := go (enL 0 ((rkM items).map (itR rows columns))) ([], [])
          rw [enL_len, List.length_map] at this
          have h0 : ([] : List Int).length = 0 := rfl
          show (List.foldl idxS ([], []) _).2.length ≤ _
          simp only [List.length_nil] at this
          omega
        refine lcW_map (α := Int) D.int (fun ix => itD ((rkM items).getD ix.toNat (0, []))) (idxM ((rkM items).map (itR rows columns))).2 0 _ (le_size (by omega)) ?_ ?_
        · intro ix hix K1 K2 h
          obtain ⟨i0, i1⟩ := hin ix hix
          subst_eqs
          rw [atI_of i0, List.getElem?_map, List.getElem?_eq_getElem (by omega)]
          refine ⟨_, rfl, ?_⟩
          rw [List.getD_eq_getElem?_getD, List.getElem?_eq_getElem (by omega)] at h
          exact h
        · unfold kepM at q
          rw [List.map_map] at q
          exact q
  · intro i xs z J h hJ
    have hi := h i List.mem_cons_self
    have := hJ (.st (itD i)) fun j hj => h j (List.mem_cons_of_mem _ hj)
    unfold itD at *
    subst_eqs
    rw [itD_1]
    exact ⟨rfl, _, rfl, rows, columns, size, i.2, rfl, hi.1, hi.2, this⟩
def narM (rows : List Rw) (columns : Nat) (items : List Item) (known : List Int) : List Item := kepM (conM rows columns known) (conC rows columns known) items
theorem con_ok {rows : List Rw} {columns : Nat} {lot : List Int} (ht : TabOk rows columns) (hlot : lotF rows.length 0 lot = true) (hgo : RfGo [] (lotR rows lot)) : TabOk (conM rows columns lot) (conC rows columns lot) := by
  have hB : BasOk columns (lotB rows lot) := rf_ok _ _ (by intro b h; cases h) (rows_len ht.l (lotF_spec.mp hlot).2) hgo
  refine ⟨?_, ?_, ?_, ?_⟩
  · have := oth_len (lotB rows lot) columns
    have := ht.c
    unfold conC
    omega
  · unfold conM
    rw [List.length_map]
    exact ht.r
  · intro r hr
    unfold conM at hr
    obtain ⟨x, _, rfl⟩ := List.mem_map.mp hr
    unfold conR conC
    rw [List.length_map]
  · intro r hr
    unfold conM at hr
    obtain ⟨x, hx, rfl⟩ := List.mem_map.mp hr
    exact conR_res hB (ht.l x hx)
def g_narrowed_list (CT : Addr) : GD := fun ds Q => ∃ (rows : List Rw) (columns size : Nat) (items : List Item) (known : List Int), ds = [tabD CT rows columns, .int size, .lst (items.map itD), tI known] ∧ TabOk rows columns ∧ lotF rows.length 0 known = true ∧ freeM rows known = true ∧ RfGo [] (lotR rows known) ∧
  size ≤ conC rows columns known ∧ items.length < 64 ∧ (∀ i ∈ items, i.2.length = size ∧ lotF rows.length 0 i.2 = true) ∧ Q (.lst ((narM rows columns items known).map itD))
end K87
end
section
set_option Elab.async false
set_option linter.all false
set_option maxRecDepth 100000
/-! K9: the law's inputs. -/
namespace K87
open PySem PySem.Spec PyProof.Rows L2 DL SN
variable {P : Program} {w : World} {K : PySem.W.Frag} {mg : Str → Option Value} {base : Heap} {CT CS CB : Addr}
local macro_rules | `(tactic| subst_eqs) => `(tactic| try simp only [wSeq, wNext, wFor, wRng1, wRng2, wRd, wSt, wC, gNm, gTp, gsNil, gsCons, wLc, wLc2, wSeqI, wPs, wYes, wIf, wIfS, wTru, wTest, wAnd, wOr, wNot, wAndV, wOrV, wNotV, wOp, wI0, wI, wIx, wUn, wNeg, wCatT, wCB, wCF, wOpF, wCatL, wRepL, wLen, wIntOf, wMM, wListOf, wTupOf, wSorted, wK, wCons, wNil, wPar, wNoPart, wPart, wEn, wEnN, wEnT, wZp, wInI, wIsN, wNotN, wDGet, wMeth, wMake, wFldC, wCon, wIsi,
  rdSl_st, rdSl_wk, rdSl_ow, rdSl_oT, stSl_st, stSl_wk, truD_bl, truD_int, truD_lst, truD_tup, truD_non, lenD_lst, lenD_tup, lenD_scr, walkD_lst, walkD_tup, seqD_lst, seqD_tup, seqD_scr, solid_int, solid_bl, solid_tup, solid_ins, solid_non, solid_str, isNon_non, isNon_lst, isNon_tup, isNon_int, isNon_bl, frz_ow0, frz_succ, frzS_st, frzS_wk, frzS_ow, frzS_oT, frzS_no,
  startD, startS, wipeD, List.set_cons_zero, List.set_cons_succ, List.getElem?_cons_zero, List.getElem?_cons_succ, List.length_cons, List.length_nil, List.cons_append, List.nil_append, List.map_cons, List.map_nil, List.replicate, Nat.reduceSub, Nat.reduceAdd, Option.some.injEq, Sl.st.injEq, Sl.wk.injEq, Sl.ow.injEq, Sl.oT.injEq, Sl.oI.injEq, D.int.injEq, D.lst.injEq, D.tup.injEq, D.bl.injEq, D.dT.injEq, D.ins.injEq, List.cons.injEq, exists_eq_left, exists_eq_left', exists_eq_right, exists_eq_right', exists_and_left, exists_and_right, and_assoc, decide_eq_true_eq, and_true, true_and, and_self, reduceIte, ite_true, ite_false, Bool.false_eq_true, reduceCtorEq, exists_false, false_and, and_false, exists_const, forall_const])

def g_cell : GD := fun ds Q => ∃ (ns : List Int) (k : Int), ds = [.scr ns, .int k] ∧ 0 ≤ k ∧ ∀ c : Int, Q (.int c)
theorem sc__law_cell : FnScope ["script", "k"] ["script", "k"] (defScope (top 35)) := ⟨rfl, rfl, rfl, by decide +kernel, rfl, by decide +kernel, by decide +kernel⟩
theorem u__law_cell (T : Txt K mg CT CS CB) : Use P w K mg base "_law_cell" 2 [false, false] g_cell := by
  have S := sc__law_cell
  refine T.f__law_cell.use (k := 1) S rfl fun f cdv A outer s H E hr => ⟨_, _, (dss_cons (ds_if (dt_cmp op_lt lo_B0 (dr 1) (DE.w (de_callB (call_lenK (K := K)) lc_len rfl T.b_len (da_wk (dr 0) da_nil))) (nomark _)) (dss_one (ds_ret (de_ixK (K := K) (dr 0) (dr 1)))) dss_nil)
      (dss_one (ds_ret (de_op op_add lo_I0 (DE.w (de_op op_mul lo_I (DE.w de_int) (dr 1))) (DE.w de_int))))), fun ds Q hl hg => ?_⟩
  obtain ⟨ns, k, rfl, hk, q⟩ := hg
  subst_eqs
  by_cases c : k < ns.length
  · rw [if_pos c, atI_of hk, List.getElem?_map, List.getElem?_eq_getElem (by omega)]
    exact ⟨_, rfl, q _⟩
  · rw [if_neg c]
    exact ⟨.inl ⟨by decide, by decide⟩, q _⟩
/-- out was drawn below the limits -/
structure Drawn (limits out : List Int) : Prop where
  len : out.length = limits.length
  at_ : ∀ i < limits.length, 0 ≤ out.getD i 0 ∧ out.getD i 0 < limits.getD i 0
def g_draws : GD := fun ds Q => ∃ (cell : Int) (limits : List Int), ds = [.int cell, lI limits] ∧ (∀ l ∈ limits, 0 < l ∧ l < 1000) ∧ limits.length ≤ 1000 ∧ ∀ out, Drawn limits out → Q (lI out)
theorem Drawn.snoc {ls out : List Int} {l x : Int} (d : Drawn ls out) (h0 : 0 ≤ x) (h1 : x < l) : Drawn (ls ++ [l]) (out ++ [x]) := by
  refine ⟨by rw [List.length_append, List.length_append, d.len]; rfl, fun i hi => ?_⟩
  rw [List.length_append, List.length_singleton] at hi
  by_cases c : i < ls.length
  · have := d.at_ i c
    rw [List.getD_eq_getElem?_getD, List.getD_eq_getElem?_getD, List.getElem?_append_left (by rw [d.len]; exact c), List.getElem?_append_left c, ← List.getD_eq_getElem?_getD, ← List.getD_eq_getElem?_getD]
    exact this
  · have e : i = ls.length := by omega
    subst e
    rw [List.getD_eq_getElem?_getD, List.getD_eq_getElem?_getD, List.getElem?_append_right (by rw [d.len]; exact Nat.le_refl _), List.getElem?_append_right (Nat.le_refl _), d.len, Nat.sub_self]
    exact ⟨h0, h1⟩
theorem sc__law_draws : FnScope ["cell", "limits", "rest", "state", "drawn", "limit"] ["cell", "limits"] (defScope (top 36)) := ⟨rfl, rfl, rfl, by decide +kernel, rfl, by decide +kernel, by decide +kernel⟩
theorem u__law_draws (T : Txt K mg CT CS CB) : Use P w K mg base "_law_draws" 2 [false, false] g_draws := by
  have S := sc__law_draws
  refine T.f__law_draws.use (k := 1) S rfl fun f cdv A outer s H E hr => ⟨_, _, (dss_cons (ds_set (i := 2) S.nd de_int)
      (dss_cons (ds_if (dt_cmp op_ge lo_B0 (dr 0) (DE.w (de_op op_pow lo_I (DE.w de_int) (DE.w de_int))) (nomark _)) (dss_one (ds_set (i := 2) S.nd (de_op op_sub lo_I0 (dr 0) (DE.w (de_op op_pow lo_I (DE.w de_int) (DE.w de_int)))))) dss_nil)
      (dss_cons (ds_set (i := 3) S.nd (de_op op_mod lo_I (DE.w (de_op op_mul lo_I (DE.w (de_callT call_int1 lc_int rfl T.b_int (da_wk (dr 0) da_nil))) (DE.w de_int))) (DE.w de_int)))
      (dss_cons (ds_own (i := 4) S.nd (df_lst da_nil))
      (dss_cons (ds_for PassesOwn.never rfl (dip_nmK (K := K) 1) (dg_name (i := 5) S.nd) (dss_cons (ds_set (i := 3) S.nd (de_op op_mod lo_I (DE.w (de_op op_add lo_I0 (DE.w (de_op op_mul lo_I (dr 3) (DE.w de_int))) (DE.w de_int))) (DE.w de_int)))
      (dss_one (ds_if (dt_cmp op_gt lo_B0 (dr 2) (DE.w de_int) (nomark _)) (dss_cons (ds_app (i := 4) (de_op op_mod lo_I (dr 2) (dr 5)))
      (dss_one (ds_set (i := 2) S.nd (de_op op_fdiv lo_I (dr 2) (dr 5))))) (dss_one (ds_app (i := 4) (de_op op_mod lo_I (DE.w (de_op op_fdiv lo_I (dr 3) (DE.w de_int))) (dr 5))))))))
      (dss_frz 4 (dss_one (ds_ret (dv 4))))))))), fun ds Q hl hg => ?_⟩
  obtain ⟨cell, limits, rfl, hl0, hll, q⟩ := hg
  unfold lI at *
  subst_eqs
  refine ⟨⟨by decide, by decide, by decide⟩, ?_⟩
  split
  refine ⟨⟨by decide, by decide, by decide⟩, .inl ⟨.inr ⟨by decide, by decide⟩, by decide, fun a => ?_⟩⟩
  rotate_left
  refine .inl ⟨.inr ⟨by decide, by decide⟩, by decide, fun a => ?_⟩
  all_goals
    refine forW_inv2 (α := Int) (S := Int × Int × List Int × Sl) D.int (fun s => [.wk (.int cell), .wk (.lst (limits.map .int)), .st (.int s.1), .st (.int s.2.1), .ow a (s.2.2.1.map .int), s.2.2.2]) (fun ys xs s => ys ++ xs = limits ∧ Drawn ys s.2.2.1) ?_ ?_ limits [] (_, _, [], .no) ⟨rfl, ⟨rfl, fun i hi => nomatch hi⟩⟩
    · intro ys s ⟨h1, h2⟩
      rw [List.append_nil] at h1
      subst h1
      subst_eqs
      exact q _ h2
    · intro ys x xs s J ⟨h1, h2⟩ hJ
      have hx := hl0 x (h1 ▸ List.mem_append_right _ List.mem_cons_self)
      have hlen : s.2.2.1.length ≤ 1000 := by
        have := congrArg List.length h1
        rw [List.length_append] at this
        have := h2.len
        omega
      have hs : s.2.2.1.length < sizeLine := Nat.lt_of_le_of_lt hlen (by decide)
      have step : ∀ r s2 v : Int, 0 ≤ v → v < x → J [.wk (.int cell), .wk (.lst (limits.map .int)), .st (.int r), .st (.int s2), .ow a (s.2.2.1.map .int ++ [.int v]), .st (.int x)] := by
        intro r s2 v v0 v1
        have := hJ (r, s2, s.2.2.1 ++ [v], .st (.int x)) ⟨by rw [List.append_assoc]; exact h1, h2.snoc v0 v1⟩
        simp only [List.map_append, List.map_cons, List.map_nil] at this
        exact this
      subst_eqs
      refine ⟨.inr ⟨by decide, by decide⟩, by decide, ?_⟩
      subst_eqs
      by_cases c : 0 < s.1
      · simp only [if_pos c, List.length_map]
        exact ⟨hx.1, hs, ⟨hx.1, by omega⟩, step _ _ _ (Int.emod_nonneg _ (by omega)) (Int.emod_lt_of_pos _ hx.1)⟩
      · simp only [if_neg c, List.length_map]
        exact ⟨⟨by decide, by decide⟩, hx.1, hs, step _ _ _ (Int.emod_nonneg _ (by omega)) (Int.emod_lt_of_pos _ hx.1)⟩
end K87
end
section
set_option Elab.async false
set_option linter.all false
set_option maxRecDepth 100000
/-! K10: the law's tuples, rows, lots. -/
namespace K87
open PySem PySem.Spec PyProof.Rows L2 DL SN
variable {P : Program} {w : World} {K : PySem.W.Frag} {mg : Str → Option Value} {base : Heap} {CT CS CB : Addr}
local macro_rules | `(tactic| subst_eqs) => `(tactic| try simp only [wSeq, wNext, wFor, wRng1, wRng2, wRd, wSt, wC, gNm, gTp, gsNil, gsCons, wLc, wLc2, wSeqI, wPs, wYes, wIf, wIfS, wTru, wTest, wAnd, wOr, wNot, wAndV, wOrV, wNotV, wOp, wI0, wI, wIx, wUn, wNeg, wCatT, wCB, wCF, wOpF, wCatL, wRepL, wLen, wIntOf, wMM, wListOf, wTupOf, wSorted, wK, wCons, wNil, wPar, wNoPart, wPart, wEn, wEnN, wEnT, wZp, wInI, wIsN, wNotN, wDGet, wMeth, wMake, wFldC, wCon, wIsi,
  rdSl_st, rdSl_wk, rdSl_ow, rdSl_oT, stSl_st, stSl_wk, truD_bl, truD_int, truD_lst, truD_tup, truD_non, lenD_lst, lenD_tup, lenD_scr, walkD_lst, walkD_tup, seqD_lst, seqD_tup, seqD_scr, solid_int, solid_bl, solid_tup, solid_ins, solid_non, solid_str, isNon_non, isNon_lst, isNon_tup, isNon_int, isNon_bl, frz_ow0, frz_succ, frzS_st, frzS_wk, frzS_ow, frzS_oT, frzS_no,
  startD, startS, wipeD, List.set_cons_zero, List.set_cons_succ, List.getElem?_cons_zero, List.getElem?_cons_succ, List.length_cons, List.length_nil, List.cons_append, List.nil_append, List.map_cons, List.map_nil, List.replicate, Nat.reduceSub, Nat.reduceAdd, Option.some.injEq, Sl.st.injEq, Sl.wk.injEq, Sl.ow.injEq, Sl.oT.injEq, Sl.oI.injEq, D.int.injEq, D.lst.injEq, D.tup.injEq, D.bl.injEq, D.dT.injEq, D.ins.injEq, List.cons.injEq, exists_eq_left, exists_eq_left', exists_eq_right, exists_eq_right', exists_and_left, exists_and_right, and_assoc, decide_eq_true_eq, and_true, true_and, and_self, reduceIte, ite_true, ite_false, Bool.false_eq_true, reduceCtorEq, exists_false, false_and, and_false, exists_const, forall_const])

theorem rgI_snoc {a n : Int} (h : a ≤ n) : rgI a (n + 1) = rgI a n ++ [n] := by
  unfold rgI
  have e : (n + 1 - a).toNat = (n - a).toNat + 1 := by omega
  rw [e, List.range_succ, List.map_append, List.map_cons, List.map_nil]
  congr 2
  omega
theorem rgI_nil {a b : Int} (h : b ≤ a) : rgI a b = [] := by
  unfold rgI
  have e : (b - a).toNat = 0 := by omega
  rw [e]
  rfl
theorem rgI_filter {a : Int} (ha : 0 ≤ a) : ∀ n : Nat, (rgI 0 n).filter (fun x => decide (a ≤ x)) = rgI a n
  | 0 => by
    rw [rgI_nil (by omega), rgI_nil (by omega)]
    rfl
  | n + 1 => by
    have e : (((n + 1 : Nat)) : Int) = (n : Int) + 1 := by omega
    rw [e, rgI_snoc (by omega), List.filter_append, rgI_filter ha n]
    by_cases c : a ≤ n
    · rw [rgI_snoc c, List.filter_cons_of_pos (by simpa using c)]
      rfl
    · rw [rgI_nil (by omega), rgI_nil (by omega), List.filter_cons_of_neg (by simpa using c)]
      rfl
def g_tuples : GD := fun ds Q => ∃ (count size : Nat), ds = [.int count, .int size] ∧ count ≤ 8 ∧ size ≤ 8 ∧ Q (.lst ((chs count size).map tI))
theorem sc__law_tuples : FnScope ["count", "size", "found", "k", "longer", "few", "x"] ["count", "size"] (defScope (top 37)) := ⟨rfl, rfl, rfl, by decide +kernel, rfl, by decide +kernel, by decide +kernel⟩
theorem u__law_tuples (T : Txt K mg CT CS CB) : Use P w K mg base "_law_tuples" 2 [false, false] g_tuples := by
  have S := sc__law_tuples
  refine T.f__law_tuples.use (k := 1) S rfl fun f cdv A outer s H E hr => ⟨_, _, (dss_cons (ds_set (i := 2) S.nd (DF.e (df_lst (da_st (de_tup da_nil) da_nil))))
      (dss_cons (ds_for PassesOwn.never rfl (di_rng1 rfl T.b_range (da_wk (dr 1) da_nil)) (dg_name (i := 3) S.nd) (dss_cons (ds_own (i := 4) S.nd (df_lst da_nil))
      (dss_cons (ds_for PassesOwn.never rfl (dip_nmK (K := K) 2) (dg_name (i := 5) S.nd) (dss_one (ds_for PassesOwn.never rfl (di_rng1 rfl T.b_range (da_wk (dr 0) da_nil)) (dg_name (i := 6) S.nd) (dss_one (ds_if (DTW.t (dw_or (dt_cmp op_eq lo_eqI (DE.w (de_callB (call_lenK (K := K)) lc_len rfl T.b_len (da_wk (dr 5) da_nil))) (DE.w de_int) (nomark _)) (dw_or1 (dt_cmp op_gt lo_B0 (dr 6) (DE.w (de_ixK (K := K) (dr 5) (DE.w (de_neg (DE.w de_int))))) (nomark _))))) (dss_one (ds_app (i := 4) (de_op (op_catAK (K := K)) lo_catT (dr 5) (DE.w (de_tup (da_st (dv 6) da_nil)))))) dss_nil)))))
      (dss_one (ds_set (i := 2) S.nd (DF.e (df_callT (call_list_ofK (K := K)) lc_list rfl T.b_list (da_wk (dr 4) da_nil))))))))
      (dss_one (ds_ret (dv 2))))), fun ds Q hl hg => ?_⟩
  obtain ⟨count, size, rfl, hc, hs, q⟩ := hg
  subst_eqs
  refine ⟨by unfold Rg; omega, ?_⟩
  rw [rngD_rgI0]
  refine forW_inv2 (α := Int) (S := Nat × Sl × Sl × Sl × Sl) D.int (fun s => [.wk (.int count), .wk (.int size), .st (.lst ((chs count s.1).map tI)), s.2.1, s.2.2.1, s.2.2.2.1, s.2.2.2.2]) (fun ys xs s => s.1 = ys.length ∧ (ys ++ xs).length = size) ?_ ?_ (rgI 0 size) [] (0, .no, .no, .no, .no) ⟨rfl, by rw [List.nil_append, rgI_len]; omega⟩
  · rintro ys ⟨n, z⟩ ⟨h3, h4⟩
    subst_eqs
    have : n = size := by rw [← h4, List.append_nil]; exact h3
    rw [this]
    exact q
  · rintro ys x xs ⟨n, z1, z2, z3, z4⟩ J ⟨h3, h4⟩ hJ
    subst_eqs
    intro a
    have hn : n + 1 ≤ 8 := by
      rw [List.length_append, List.length_cons] at h4
      have : n = ys.length := h3
      omega
    have hlen : (chs count n).length ≤ 8 ^ 7 := Nat.le_trans (chs_len (by omega) (by omega) n) (Nat.pow_le_pow_right (by decide) (by omega))
    refine forW_inv2 (α := List Int) (S := List (List Int) × Sl × Sl) tI (fun s => [.wk (.int count), .wk (.int size), .st (.lst ((chs count n).map tI)), .st (.int x), .ow a (s.1.map tI), s.2.1, s.2.2])
      (fun ps qs s => ps ++ qs = chs count n ∧ s.1 = ps.flatMap (fun c => (rgI (nxt c) count).map fun y => c ++ [y]) ∧ s.1.length ≤ 8 * ps.length) ?_ ?_ (chs count n) [] ([], z3, z4) ⟨rfl, rfl, Nat.le_refl _⟩
    · rintro ps ⟨acc, z3, z4⟩ ⟨h5, h6, h7⟩
      rw [List.append_nil] at h5
      subst_eqs
      have := hJ (n + 1, .st (.int x), .ow a (acc.map tI), z3, z4) ⟨by rw [List.length_append]; exact congrArg (· + 1) h3, by rw [List.append_assoc]; exact h4⟩
      rw [h5] at h6
      have e : chs count (n + 1) = acc := h6.symm
      rw [e] at this
      exact this
    · rintro ps c qs ⟨acc, z3, z4⟩ J2 ⟨h5, h6, h7⟩ hJ2
      dsimp only at h5 h6 h7
      have hcm : c ∈ chs count n := h5 ▸ List.mem_append_right _ List.mem_cons_self
      have hpl : ps.length < 8 ^ 7 := by
        have := congrArg List.length h5
        rw [List.length_append, List.length_cons] at this
        omega
      have hc8 : c.length ≤ 8 := by have := (chs_in hcm).1; omega
      subst_eqs
      refine ⟨by unfold Rg; omega, ?_⟩
      rw [rngD_rgI0]
      refine forW_inv2 (α := Int) (S := List (List Int) × Sl) D.int (fun s => [.wk (.int count), .wk (.int size), .st (.lst ((chs count n).map tI)), .st (.int x), .ow a (s.1.map tI), .st (tI c), s.2])
        (fun us vs s => us ++ vs = rgI 0 count ∧ s.1 = acc ++ (us.filter fun y => decide (nxt c ≤ y)).map fun y => c ++ [y]) ?_ ?_ (rgI 0 count) [] (acc, z4) ⟨rfl, (List.append_nil _).symm⟩
      · rintro us ⟨bcc, z4⟩ ⟨h8, h9⟩
        rw [List.append_nil] at h8
        rw [h8, rgI_filter (nxt_ge hcm)] at h9
        dsimp only at h9
        have e2 : bcc.length ≤ acc.length + 8 := by
          have := congrArg List.length h9
          rw [List.length_append, List.length_map, rgI_len] at this
          have := nxt_ge hcm
          show bcc.length ≤ _
          omega
        refine hJ2 (bcc, .st (tI c), z4) ⟨by rw [List.append_assoc]; exact h5, ?_, ?_⟩
        · rw [List.flatMap_append, ← h6, List.flatMap_cons, List.flatMap_nil, List.append_nil]
          exact h9
        · rw [List.length_append]
          show bcc.length ≤ 8 * (ps.length + 1)
          have : acc.length ≤ 8 * ps.length := h7
          omega
      · rintro us y vs ⟨bcc, z4⟩ J3 ⟨h8, h9⟩ hJ3
        dsimp only at h8 h9
        have hbl : bcc.length ≤ acc.length + 7 := by
          have e1 := congrArg List.length h8
          rw [List.length_append, List.length_cons, rgI_len] at e1
          have e2 : bcc.length ≤ acc.length + us.length := by
            have := congrArg List.length h9
            rw [List.length_append, List.length_map] at this
            have := List.length_filter_le (fun y => decide (nxt c ≤ y)) us
            show bcc.length ≤ _
            omega
          omega
        have yes : nxt c ≤ y → J3 [.wk (.int count), .wk (.int size), .st (.lst ((chs count n).map tI)), .st (.int x), .ow a (bcc.map tI ++ [tI (c ++ [y])]), .st (tI c), .st (.int y)] := by
          intro hy
          have h10 : bcc = acc ++ _ := h9
          have := hJ3 (bcc ++ [c ++ [y]], .st (.int y)) ⟨by rw [List.append_assoc]; exact h8, by rw [List.filter_append, List.filter_cons_of_pos (by simpa using hy), h10, List.map_append, List.append_assoc]; rfl⟩
          simp only [List.map_append, List.map_cons, List.map_nil] at this ⊢
          exact this
        have no : ¬ nxt c ≤ y → J3 [.wk (.int count), .wk (.int size), .st (.lst ((chs count n).map tI)), .st (.int x), .ow a (bcc.map tI), .st (tI c), .st (.int y)] := by
          intro hy
          exact hJ3 (bcc, .st (.int y)) ⟨by rw [List.append_assoc]; exact h8, by rw [List.filter_append, List.filter_cons_of_neg (by simpa using hy), List.filter_nil, List.append_nil]; exact h9⟩
        have big : (List.map tI bcc).length < sizeLine := by
          rw [List.length_map, sizeLine_eq]
          have : acc.length ≤ 8 * ps.length := h7
          omega
        have big2 : (List.map D.int c).length + 1 ≤ sizeLine := by
          rw [List.length_map, sizeLine_eq]
          omega
        unfold tI at *
        simp only [List.map_append, List.map_cons, List.map_nil] at yes no big ⊢
        rcases hc2 : c.getLast? with _ | l
        · have hcn : c = [] := List.getLast?_eq_none_iff.mp hc2
          subst hcn
          subst_eqs
          have hn : nxt [] ≤ y := by
            have : y ∈ rgI 0 count := h8 ▸ List.mem_append_right _ List.mem_cons_self
            exact (mem_rgI.mp this).1
          rw [if_pos (by rfl)]
          exact ⟨by rw [sizeLine_eq]; decide, big, yes hn⟩
        · have hne : c ≠ [] := fun z => by rw [z] at hc2; cases hc2
          have hcl : ¬ c.length = 0 := fun z => hne (List.length_eq_zero_iff.mp z)
          have e2 : nxt c = l + 1 := by unfold nxt; rw [hc2]
          rw [e2] at yes no
          subst_eqs
          rw [if_neg (by rw [List.length_map]; omega), DL.atI_last, List.getLast?_map, hc2]
          refine ⟨_, rfl, l, rfl, ?_⟩
          by_cases hy : l < y
          · rw [if_pos hy]
            exact ⟨big2, big, yes (by omega)⟩
          · rw [if_neg hy]
            exact no (by omega)
def g_points : GD := fun ds Q => ∃ (numbers : List Int) (columns : Nat), ds = [lI numbers, .int columns] ∧ numbers.length ≤ 12 ∧ columns ≤ 6 ∧ ∀ rows : List Rw, rows.length = numbers.length → AllLen columns rows → (∀ r ∈ rows, Res r) → Q (rwsD rows)
theorem sc__law_points : FnScope ["numbers", "columns", "rows", "number", "row", "power", "k"] ["numbers", "columns"] (defScope (top 39)) := ⟨rfl, rfl, rfl, by decide +kernel, rfl, by decide +kernel, by decide +kernel⟩
theorem u__law_points (T : Txt K mg CT CS CB) : Use P w K mg base "_law_points" 2 [false, false] g_points := by
  have S := sc__law_points
  refine T.f__law_points.use (k := 1) S rfl fun f cdv A outer s H E hr => ⟨_, _, (dss_cons (ds_own (i := 2) S.nd (df_lst da_nil))
      (dss_cons (ds_for PassesOwn.never rfl (dip_nmK (K := K) 0) (dg_name (i := 3) S.nd) (dss_cons (ds_own (i := 4) S.nd (df_lst da_nil))
      (dss_cons (ds_set (i := 5) S.nd de_int)
      (dss_cons (ds_for PassesOwn.never rfl (di_rng1 rfl T.b_range (da_wk (dr 1) da_nil)) (dg_name (i := 6) S.nd) (dss_cons (ds_app (i := 4) (dv 5))
      (dss_one (ds_set (i := 5) S.nd (de_op op_mod lo_I (DE.w (de_op op_mul lo_I (dr 5) (dr 3))) (DE.w de_int))))))
      (dss_frz 4 (dss_one (ds_app (i := 2) (dv 4))))))))
      (dss_frz 2 (dss_one (ds_ret (dv 2)))))), fun ds Q hl hg => ?_⟩
  obtain ⟨numbers, columns, rfl, hn, hc, q⟩ := hg
  unfold lI at *
  subst_eqs
  intro a
  refine forW_inv2 (α := Int) (S := List Rw × Sl × Sl × Sl × Sl) D.int (fun s => [.wk (.lst (numbers.map .int)), .wk (.int columns), .ow a (s.1.map lI), s.2.1, s.2.2.1, s.2.2.2.1, s.2.2.2.2])
    (fun ys xs s => ys ++ xs = numbers ∧ s.1.length = ys.length ∧ AllLen columns s.1 ∧ ∀ r ∈ s.1, Res r) ?_ ?_ numbers [] ([], .no, .no, .no, .no) ⟨rfl, rfl, (fun r h => nomatch h), fun r h => nomatch h⟩
  · rintro ys ⟨rows, z1, z2, z3, z4⟩ ⟨h1, h2, h3, h4⟩
    rw [List.append_nil] at h1
    subst h1
    subst_eqs
    exact q rows h2 h3 h4
  · rintro ys x xs ⟨rows, z1, z2, z3, z4⟩ J ⟨h1, h2, h3, h4⟩ hJ
    dsimp only at h2 h3 h4
    have hyl : ys.length < 12 := by
      have := congrArg List.length h1
      rw [List.length_append, List.length_cons] at this
      omega
    subst_eqs
    intro a2
    refine ⟨by unfold Rg; omega, ?_⟩
    rw [rngD_rgI0]
    refine forW_inv2 (α := Int) (S := Rw × Int × Sl) D.int (fun s => [.wk (.lst (numbers.map .int)), .wk (.int columns), .ow a (rows.map lI), .st (.int x), .ow a2 (s.1.map .int), .st (.int s.2.1), s.2.2])
      (fun us vs s => us ++ vs = rgI 0 columns ∧ s.1.length = us.length ∧ Res s.1 ∧ 0 ≤ s.2.1 ∧ s.2.1 < 97) ?_ ?_ (rgI 0 columns) [] ([], 1, z4) ⟨rfl, rfl, (fun r h => nomatch h), (by decide : (0:Int) ≤ 1), (by decide : (1:Int) < 97)⟩
    · rintro us ⟨row, p, z4⟩ ⟨h5, h6, h7, h8⟩
      rw [List.append_nil] at h5
      dsimp only at h6 h7
      subst_eqs
      refine ⟨by rw [List.length_map, sizeLine_eq]; omega, ?_⟩
      have := hJ (rows ++ [row], .st (.int x), .st (lI row), .st (.int p), z4) ⟨by rw [List.append_assoc]; exact h1, by rw [List.length_append, List.length_append, h2]; rfl, ?_, ?_⟩
      · simp only [List.map_append, List.map_cons, List.map_nil] at this
        exact this
      · intro r hr
        rcases List.mem_append.mp hr with h | h
        · exact h3 r h
        · rw [List.mem_singleton.mp h, h6, h5, rgI_len]
          omega
      · intro r hr
        rcases List.mem_append.mp hr with h | h
        · exact h4 r h
        · rw [List.mem_singleton.mp h]
          exact h7
    · rintro us y vs ⟨row, p, z4⟩ J2 ⟨h5, h6, h7, h8, h9⟩ hJ2
      dsimp only at h6 h7 h8 h9
      have hul : us.length < 6 := by
        have := congrArg List.length h5
        rw [List.length_append, List.length_cons, rgI_len] at this
        omega
      subst_eqs
      refine ⟨by rw [List.length_map, sizeLine_eq]; omega, .inl ⟨by omega, by omega⟩, by decide, ?_⟩
      have := hJ2 (row ++ [p], p * x % 97, .st (.int y)) ⟨by rw [List.append_assoc]; exact h5, by rw [List.length_append, List.length_append, h6]; rfl, ?_, Int.emod_nonneg _ (by decide), Int.emod_lt_of_pos _ (by decide)⟩
      · simp only [List.map_append, List.map_cons, List.map_nil] at this
        exact this
      · intro r hr
        rcases List.mem_append.mp hr with h | h
        · exact h7 r h
        · rw [List.mem_singleton.mp h]
          exact ⟨h8, h9⟩
def g_lot : GD := fun ds Q => ∃ (marks : List Int) (mark : Int), ds = [lI marks, .int mark] ∧ marks.length ≤ 12 ∧ Q (tI ((rgI 0 marks.length).filter fun x => decide (marks.getD x.toNat 0 = mark)))
def g_numbers : GD := fun ds Q => ∃ (things : Nat) (cell : Int), ds = [.int things, .int cell] ∧ things ≤ 12 ∧ ∀ out : List Int, out.length = things → Q (lI out)
/-- some later number is new -/
theorem some_new {ns : List Int} (h : ns.length < 97) (n : Int) : ∃ k : Nat, (n + k) % 97 ∉ ns := by
  apply Classical.byContradiction
  intro c
  have hall : ∀ k : Nat, (n + k) % 97 ∈ ns := fun k => Classical.byContradiction fun z => c ⟨k, z⟩
  have h1 : ((List.range 97).map fun k : Nat => (n + k) % 97).Nodup := by
    unfold List.Nodup
    rw [List.pairwise_map]
    have : (List.range 97).Pairwise fun a b => a < b ∧ a < 97 ∧ b < 97 := by decide +kernel
    refine this.imp fun {a b} h => ?_
    omega
  have h2 := nodup_le h1 (m := ns) fun x hx => by
    obtain ⟨k, _, rfl⟩ := List.mem_map.mp hx
    exact hall k
  rw [List.length_map, List.length_range] at h2
  omega
theorem repD (n : Nat) (l : Int) : (List.replicate n [D.int l]).flatten = (List.replicate n l).map D.int := by
  induction n with
  | zero => rfl
  | succ n ih => rw [List.replicate_succ, List.replicate_succ, List.flatten_cons, ih]; rfl
theorem lcW_any {α : Type} {δ : St'} {g : WG} {tt : WT} {te : WE} (f : α → D) (R : D → Prop) : ∀ (xs : List α) (n : Nat) (P : List D → Prop), n + xs.length ≤ sizeLine →
    (∀ x ∈ xs, ∀ (K1 : D → Prop) (K2 : Prop), (∀ d, R d → K1 d) → g (f x) δ fun δ2 => tt δ2 fun b => if b = true then te δ2 K1 else K2) → (∀ ds, ds.length = xs.length → (∀ d ∈ ds, R d) → P ds) → lcW δ g tt te n (xs.map f) P
  | [], n, P, _, _, p => p [] rfl fun d h => nomatch h
  | x :: xs, n, P, hl, hx, p => by
    rw [List.length_cons] at hl
    exact hx x List.mem_cons_self _ _ fun d hd => ⟨by omega, lcW_any f R xs (n + 1) _ (by omega) (fun y hy => hx y (List.mem_cons_of_mem _ hy)) fun ds h1 h2 =>
      p (d :: ds) (by rw [List.length_cons, List.length_cons, h1]) fun e he => by
        rcases List.mem_cons.mp he with rfl | he
        · exact hd
        · exact h2 e he⟩
theorem Drawn.res {n : Nat} {l : Int} {out : List Int} (h : l ≤ 97) (d : Drawn (List.replicate n l) out) : out.length = n ∧ ∀ x ∈ out, 0 ≤ x ∧ x < 97 := by
  have e : out.length = n := by rw [d.len, List.length_replicate]
  refine ⟨e, fun x hx => ?_⟩
  obtain ⟨i, hi, rfl⟩ := List.mem_iff_getElem.mp hx
  have := d.at_ i (by rw [List.length_replicate]; omega)
  rw [List.getD_eq_getElem?_getD, List.getElem?_eq_getElem hi, List.getD_eq_getElem?_getD, List.getElem?_eq_getElem (by rw [List.length_replicate]; omega), List.getElem_replicate] at this
  exact ⟨this.1, Int.lt_of_lt_of_le this.2 h⟩
theorem rows_of_R {columns : Nat} : ∀ ds : List D, (∀ d ∈ ds, ∃ r : Rw, d = lI r ∧ r.length = columns ∧ Res r) → ∃ rows : List Rw, ds = rows.map lI ∧ rows.length = ds.length ∧ AllLen columns rows ∧ ∀ r ∈ rows, Res r
  | [], _ => ⟨[], rfl, rfl, (fun r h => nomatch h), fun r h => nomatch h⟩
  | d :: ds, h => by
    obtain ⟨r, rfl, h1, h2⟩ := h d List.mem_cons_self
    obtain ⟨rows, rfl, h3, h4, h5⟩ := rows_of_R ds fun e he => h e (List.mem_cons_of_mem _ he)
    refine ⟨r :: rows, rfl, by rw [List.length_cons, List.length_cons, h3], fun r' h' => ?_, fun r' h' => ?_⟩
    · rcases List.mem_cons.mp h' with rfl | h'
      · exact h1
      · exact h4 _ h'
    · rcases List.mem_cons.mp h' with rfl | h'
      · exact h2
      · exact h5 _ h'
theorem sc__law_numbers : FnScope ["things", "cell", "numbers", "number"] ["things", "cell"] (defScope (top 40)) := ⟨rfl, rfl, rfl, by decide +kernel, rfl, by decide +kernel, by decide +kernel⟩
theorem u__law_numbers (T : Txt K mg CT CS CB) : Use P w K mg base "_law_numbers" 4 [false, false] g_numbers := by
  have S := sc__law_numbers
  refine T.f__law_numbers.use (k := 3) S rfl fun f cdv A outer s H E hr => ⟨_, _, (dss_cons (ds_own (i := 2) S.nd (df_lst da_nil))
      (dss_cons (ds_for PassesOwn.never rfl (dip_seqK (K := K) (Use.deK (K := K) (u__law_draws T) hr (da_wk (dr 1) (da_wk (DF.w (df_op op_rep lo_repL (DF.w (df_lst (da_st de_int da_nil))) (dr 0))) da_nil)))) (dg_name (i := 3) S.nd) (dss_cons (ds_while PassesOwn.never (dt_cmp (op_inK (K := K)) lo_inI (dr 3) (dr 2) rfl) (dss_one (ds_set (i := 3) S.nd (de_op op_mod lo_I (DE.w (de_op op_add lo_I0 (dr 3) (DE.w de_int))) (DE.w de_int)))))
      (dss_one (ds_app (i := 2) (dv 3)))))
      (dss_frz 2 (dss_one (ds_ret (dv 2)))))), fun ds Q hl hg => ?_⟩
  obtain ⟨things, cell, rfl, ht, q⟩ := hg
  subst_eqs
  intro a
  refine ⟨by omega, by omega, by rw [sizeLine_eq]; omega, ?_⟩
  rw [Int.toNat_natCast, repD]
  refine ⟨cell, _, rfl, fun l hl => by rw [List.eq_of_mem_replicate hl]; decide, by rw [List.length_replicate]; omega, fun out hd => ?_⟩
  obtain ⟨hol, hor⟩ := hd.res (Int.le_refl _)
  unfold lI at *
  subst_eqs
  refine forW_inv2 (α := Int) (S := List Int × Sl) D.int (fun s => [.wk (.int things), .wk (.int cell), .ow a (s.1.map .int), s.2])
    (fun ys xs s => ys ++ xs = out ∧ s.1.length = ys.length) ?_ ?_ out [] ([], .no) ⟨rfl, rfl⟩
  · rintro ys ⟨ns, z⟩ ⟨h1, h2⟩
    rw [List.append_nil] at h1
    subst h1
    subst_eqs
    exact q ns (by rw [← hol]; exact h2)
  · rintro ys x xs ⟨ns, z⟩ J ⟨h1, h2⟩ hJ
    dsimp only at h2
    have hyl : ys.length < 12 := by
      have := congrArg List.length h1
      rw [List.length_append, List.length_cons] at this
      omega
    have hx := hor x (h1 ▸ List.mem_append_right _ List.mem_cons_self)
    obtain ⟨k, hk⟩ := some_new (ns := ns) (by omega) x
    subst_eqs
    refine while_inv (S := Int × Nat) (fun s => [.wk (.int things), .wk (.int cell), .ow a (ns.map .int), .st (.int s.1)]) (fun s => 0 ≤ s.1 ∧ s.1 < 97 ∧ (s.1 + s.2) % 97 ∉ ns) (fun s => s.2) ?_ (x, k) ⟨hx.1, hx.2, hk⟩
    rintro ⟨n, k⟩ K2 ⟨h3, h4, h5⟩ hK
    dsimp only at h3 h4 h5
    subst_eqs
    refine ⟨ns, rfl, ?_⟩
    by_cases c : n ∈ ns
    · rw [if_pos c]
      have hk0 : k ≠ 0 := by
        rintro rfl
        apply h5
        have : (n + ((0 : Nat) : Int)) % 97 = n := by omega
        rw [this]
        exact c
      refine ⟨by decide, hK ((n + 1) % 97, k - 1) ⟨Int.emod_nonneg _ (by decide), Int.emod_lt_of_pos _ (by decide), ?_⟩ (by show k - 1 < k; omega)⟩
      have e : ((n + 1) % 97 + ((k - 1 : Nat) : Int)) % 97 = (n + (k : Int)) % 97 := by omega
      show ((n + 1) % 97 + ((k - 1 : Nat) : Int)) % 97 ∉ ns
      rw [e]
      exact h5
    · rw [if_neg c]
      refine ⟨by rw [List.length_map, sizeLine_eq]; omega, ?_⟩
      have := hJ (ns ++ [n], .st (.int n)) ⟨by rw [List.append_assoc]; exact h1, by rw [List.length_append, List.length_append, h2]; rfl⟩
      simp only [List.map_append, List.map_cons, List.map_nil] at this
      exact this
def g_rows : GD := fun ds Q => ∃ (menu : Int) (things columns : Nat) (ns : List Int), ds = [.int menu, .int things, .int columns, .scr ns] ∧ things ≤ 11 ∧ columns ≤ 6 ∧ ∀ rows : List Rw, rows.length = things → AllLen columns rows → (∀ r ∈ rows, Res r) → Q (rwsD rows)
theorem sc__law_rows : FnScope ["menu", "things", "columns", "script", "limit", "x"] ["menu", "things", "columns", "script"] (defScope (top 41)) := ⟨rfl, rfl, rfl, by decide +kernel, rfl, by decide +kernel, by decide +kernel⟩
theorem u__law_rows (T : Txt K mg CT CS CB) : Use P w K mg base "_law_rows" 5 [false, false, false, false] g_rows := by
  have S := sc__law_rows
  refine T.f__law_rows.use (k := 4) S rfl fun f cdv A outer s H E hr => ⟨_, _, (dss_cons (ds_if (dt_cmp op_eq lo_eqI (dr 0) (DE.w de_int) (nomark _)) (dss_one (ds_ret (Use.deK (K := K) (u__law_points T) hr (da_wk (DF.w (df_listR2 rfl T.b_list rfl T.b_range rfl (DE.w de_int) (DE.w (de_op op_add lo_I0 (dr 1) (DE.w de_int))))) (da_wk (dr 2) da_nil))))) dss_nil)
      (dss_cons (ds_if (dt_cmp op_eq lo_eqI (dr 0) (DE.w de_int) (nomark _)) (dss_one (ds_ret (Use.deK (K := K) (u__law_points T) hr (da_wk (DE.w (Use.deK (K := K) (u__law_numbers T) hr (da_wk (dr 1) (da_wk (DE.w (Use.deK (K := K) (u__law_cell T) hr (da_wk (dr 3) (da_wk (DE.w de_int) da_nil)))) da_nil)))) (da_wk (dr 2) da_nil))))) dss_nil)
      (dss_cons (ds_set (i := 4) S.nd de_int)
      (dss_cons (ds_if (dt_cmp op_eq lo_eqI (dr 0) (DE.w de_int) (nomark _)) (dss_one (ds_set (i := 4) S.nd de_int)) dss_nil)
      (dss_one (ds_ret (DF.e (df_lc (own := [("x", 5)]) rfl S.nd (DIp.w (di_rng1 rfl T.b_range (da_wk (dr 1) da_nil))) (by kernel_rfl) (fun _ _ _ _ _ => (dg_name (i := 5) S.nd)) (fun _ _ _ _ _ => dts_nil) (fun _ _ _ _ _ => (Use.deK (K := K) (u__law_draws T) hr (da_wk (DE.w (Use.deK (K := K) (u__law_cell T) hr (da_wk (dr 3) (da_wk (DE.w (de_op op_add lo_I0 (DE.w de_int) (dr 5))) da_nil)))) (da_wk (DF.w (df_op op_rep lo_repL (DF.w (df_lst (da_st (dv 4) da_nil))) (dr 2))) da_nil)))))))))))), fun ds Q hl hg => ?_⟩
  obtain ⟨menu, things, columns, ns, rfl, ht, hc, q⟩ := hg
  subst_eqs
  have fin : ∀ ds : List D, ds.length = things → (∀ d ∈ ds, ∃ r : Rw, d = lI r ∧ r.length = columns ∧ Res r) → Q (.lst ds) := by
    intro ds h1 h2
    obtain ⟨rows, rfl, h3, h4, h5⟩ := rows_of_R ds h2
    exact q rows (by rw [h3, h1]) h4 h5
  by_cases c0 : menu = 0
  · rw [if_pos c0]
    have e : (↑things + 1 - 1 : Int).toNat = things := by omega
    have e2 := rngD_rgI 1 (↑things + 1)
    rw [e] at e2 ⊢
    rw [e2]
    refine ⟨by unfold RgOk; omega, rgI 1 (↑things + 1), columns, rfl, by rw [rgI_len]; omega, hc, fun rows h1 => q rows (by rw [h1, rgI_len]; omega)⟩
  rw [if_neg c0]
  by_cases c1 : menu = 1
  · rw [if_pos c1]
    refine ⟨ns, 1, rfl, by decide, fun cell => ⟨things, cell, rfl, by omega, fun out ho => ⟨out, columns, rfl, by omega, hc, fun rows h1 => q rows (by omega)⟩⟩⟩
  rw [if_neg c1]
  split
  all_goals
    refine ⟨by unfold Rg; omega, ?_⟩
    rw [rngD_rgI0]
    refine lcW_any (α := Int) D.int (fun d => ∃ r : Rw, d = lI r ∧ r.length = columns ∧ Res r) (rgI 0 things) 0 _ (le_size (by rw [rgI_len]; omega)) ?_ (fun ds h => fin ds (by rw [h, rgI_len]; omega))
    intro x hx K1 K2 h
    obtain ⟨h0, h1⟩ := mem_rgI.mp hx
    subst_eqs
    refine ⟨ns, 2 + x, rfl, by omega, fun cell => ?_⟩
    subst_eqs
    refine ⟨by omega, by omega, by rw [sizeLine_eq]; omega, ?_⟩
    rw [Int.toNat_natCast, repD]
    refine ⟨cell, _, rfl, fun l hl => by rw [List.eq_of_mem_replicate hl]; decide, by rw [List.length_replicate]; omega, fun out hd => ?_⟩
    exact h _ ⟨out, rfl, hd.res (by decide)⟩
end K87
end
section
set_option Elab.async false
set_option linter.all false
set_option maxRecDepth 100000
/-! K11: determinants and minors of the law. -/
namespace K87
open PySem PySem.Spec PyProof.Rows L2 DL SN
variable {P : Program} {w : World} {K : PySem.W.Frag} {mg : Str → Option Value} {base : Heap} {CT CS CB : Addr}
local macro_rules | `(tactic| subst_eqs) => `(tactic| try simp only [wSeq, wNext, wFor, wRng1, wRng2, wRd, wSt, wC, gNm, gTp, gsNil, gsCons, wLc, wLc2, wSeqI, wPs, wYes, wIf, wIfS, wTru, wTest, wAnd, wOr, wNot, wAndV, wOrV, wNotV, wOp, wI0, wI, wIx, wUn, wNeg, wCatT, wCB, wCF, wOpF, wCatL, wRepL, wLen, wIntOf, wMM, wListOf, wTupOf, wSorted, wK, wCons, wNil, wPar, wNoPart, wPart, wEn, wEnN, wEnT, wZp, wInI, wIsN, wNotN, wDGet, wMeth, wMake, wFldC, wCon, wIsi,
  rdSl_st, rdSl_wk, rdSl_ow, rdSl_oT, stSl_st, stSl_wk, truD_bl, truD_int, truD_lst, truD_tup, truD_non, lenD_lst, lenD_tup, lenD_scr, walkD_lst, walkD_tup, seqD_lst, seqD_tup, seqD_scr, solid_int, solid_bl, solid_tup, solid_ins, solid_non, solid_str, isNon_non, isNon_lst, isNon_tup, isNon_int, isNon_bl, frz_ow0, frz_succ, frzS_st, frzS_wk, frzS_ow, frzS_oT, frzS_no,
  startD, startS, wipeD, List.set_cons_zero, List.set_cons_succ, List.getElem?_cons_zero, List.getElem?_cons_succ, List.length_cons, List.length_nil, List.cons_append, List.nil_append, List.map_cons, List.map_nil, List.replicate, Nat.reduceSub, Nat.reduceAdd, Option.some.injEq, Sl.st.injEq, Sl.wk.injEq, Sl.ow.injEq, Sl.oT.injEq, Sl.oI.injEq, D.int.injEq, D.lst.injEq, D.tup.injEq, D.bl.injEq, D.dT.injEq, D.ins.injEq, List.cons.injEq, exists_eq_left, exists_eq_left', exists_eq_right, exists_eq_right', exists_and_left, exists_and_right, and_assoc, decide_eq_true_eq, and_true, true_and, and_self, reduceIte, ite_true, ite_false, Bool.false_eq_true, reduceCtorEq, exists_false, false_and, and_false, exists_const, forall_const])

/-- a promise that never holds -/
theorem use_none {x : Str} {st : Stmt} {ps : List Str} {k : Nat} {ms : List Bool} {g : GD} (F : TxtF K mg x st ps) (hl : ps.length = ms.length) (h : ∀ ds Q, ¬ g ds Q) : Use P w K mg base x k ms g := by
  obtain ⟨f, fd, F, h1, h2⟩ := F
  refine ⟨f, fd, ps, h1, F.kp, h2, ⟨fun vs H Q E hs => hs.len.trans hl.symm, fun A outer s H args us vs Q E hr he hb hv hs => ?_⟩⟩
  obtain ⟨B, ds, R, _, _, hg, _⟩ := hs
  exact absurd hg (h ds R)
def sgn (j : Nat) : Int := 1 - 2 * ((j : Int) % 2)
def detN : Nat → List Rw → Int
  | 0, _ => 1
  | n + 1, rows => ((List.range (n + 1)).foldl (fun t j => t + sgn j * (rows.getD 0 []).getD j 0 * detN n (rows.tail.map fun r => r.eraseIdx j)) 0) % 97
theorem detN_res : ∀ n rows, 0 ≤ detN n rows ∧ detN n rows < 97
  | 0, _ => by unfold detN; omega
  | n + 1, rows => by unfold detN; exact ⟨Int.emod_nonneg _ (by decide), Int.emod_lt_of_pos _ (by decide)⟩
theorem cutD_tail {r : D} {ds : List D} : DL.cutD (r :: ds) (some 1) none = ds := by
  unfold DL.cutD
  have e : HT.sIx (r :: ds).length 0 (some 1) = 1 := by unfold HT.sIx; simp
  have e2 : HT.sIx (r :: ds).length (r :: ds).length none = (r :: ds).length := rfl
  rw [e, e2, List.drop_succ_cons, List.drop_zero, List.take_of_length_le (by rw [List.length_cons]; omega)]
theorem rgI_at {a b : Int} {ys xs : List Int} {x : Int} (h : ys ++ x :: xs = rgI a b) : x = a + ys.length ∧ x < b := by
  have h1 : (rgI a b)[ys.length]? = some x := by
    rw [← h, List.getElem?_append_right (Nat.le_refl _), Nat.sub_self]
    rfl
  have h2 : x ∈ rgI a b := List.mem_of_getElem? h1
  refine ⟨?_, (mem_rgI.mp h2).2⟩
  unfold rgI at h1
  rw [List.getElem?_map] at h1
  obtain ⟨k, hk, rfl⟩ := Option.map_eq_some_iff.mp h1
  obtain ⟨hlt, rfl⟩ := List.getElem?_eq_some_iff.mp hk
  rw [List.getElem_range]
theorem at_int {r : Rw} {j : Nat} (h : j < r.length) : atI (r.map D.int) (j : Int) = some (.int (r.getD j 0)) := by
  rw [atI_of (Int.natCast_nonneg j), Int.toNat_natCast, List.getElem?_map, List.getElem?_eq_getElem h, List.getD_eq_getElem?_getD, List.getElem?_eq_getElem h]
  rfl
def g_det (n : Nat) : GD := fun ds Q => ∃ (m : Nat) (rows : List Rw), ds = [rwsD rows] ∧ m < n ∧ m ≤ 100 ∧ rows.length = m ∧ AllLen m rows ∧ (∀ r ∈ rows, Res r) ∧ Q (.int (detN m rows))
theorem sc__law_det : FnScope ["rows", "total", "j", "rest", "row"] ["rows"] (defScope (top 45)) := ⟨rfl, rfl, rfl, by decide +kernel, rfl, by decide +kernel, by decide +kernel⟩
theorem s__law_det (T : Txt K mg CT CS CB) {k n : Nat} (ih : Use P w K mg base "_law_det" k [false] (g_det n)) : Use P w K mg base "_law_det" (k + 1) [false] (g_det (n + 1)) := by
  have S := sc__law_det
  refine T.f__law_det.use (k := k) S rfl fun f cdv A outer s H E hr => ⟨_, _, (dss_cons (ds_if (dt_cmp op_eq lo_eqI (DE.w (de_callB (call_lenK (K := K)) lc_len rfl T.b_len (da_wk (dr 0) da_nil))) (DE.w de_int) (nomark _)) (dss_one (ds_ret de_int)) dss_nil)
      (dss_cons (ds_set (i := 1) S.nd de_int)
      (dss_cons (ds_for PassesOwn.never rfl (di_rng1 rfl T.b_range (da_wk (DE.w (de_callB (call_lenK (K := K)) lc_len rfl T.b_len (da_wk (dr 0) da_nil))) da_nil)) (dg_name (i := 2) S.nd) (dss_cons (ds_lcE (i := 3) (own := [("row", 4)]) rfl S.nd (DIp.w (dip_seqK (K := K) (DF.e (df_slLK (K := K) (dr 0) (do_some de_int) do_none)))) (by kernel_rfl) (fun _ _ _ _ _ => (dg_name (i := 4) S.nd)) (fun _ _ _ _ _ => dts_nil) (fun _ _ _ _ _ => (DF.e (df_op op_cat lo_catL (DF.w (df_slLK (K := K) (dr 4) do_none (do_some (dv 2)))) (DF.w (df_slLK (K := K) (dr 4) (do_some (de_op op_add lo_I0 (dr 2) (DE.w de_int))) do_none))))))
      (dss_one (ds_set (i := 1) S.nd (de_op op_add lo_I0 (dr 1) (DE.w (de_op op_mul lo_I (DE.w (de_op op_mul lo_I (DE.w (de_op op_sub lo_I0 (DE.w de_int) (DE.w (de_op op_mul lo_I (DE.w de_int) (DE.w (de_op op_mod lo_I (dr 2) (DE.w de_int))))))) (DE.w (de_ixK (K := K) (DE.w (de_ixK (K := K) (dr 0) (DE.w de_int))) (dr 2))))) (DE.w (Use.deK (K := K) (hk := Nat.le_refl _) ih hr (da_wk (dr 3) da_nil))))))))))
      (dss_one (ds_ret (de_op op_mod lo_I (DE.w (de_callT call_int1 lc_int rfl T.b_int (da_wk (dr 1) da_nil))) (DE.w de_int))))))), fun ds Q hl hg => ?_⟩
  obtain ⟨m, rows, rfl, hmn, hm, hlen, hal, hres, q⟩ := hg
  unfold rwsD lI at *
  subst_eqs
  cases rows with
  | nil =>
    rw [if_pos (by rfl)]
    subst hlen
    exact q
  | cons r0 rest =>
  obtain ⟨m, rfl⟩ : ∃ m', m = m' + 1 := ⟨m - 1, by rw [List.length_cons] at hlen; omega⟩
  rw [List.length_map, if_neg (by omega)]
  have hrl : rest.length = m := by rw [List.length_cons] at hlen; omega
  have hr0 : r0.length = m + 1 := hal r0 List.mem_cons_self
  have hres0 : Res r0 := hres r0 List.mem_cons_self
  refine ⟨by unfold Rg; omega, ?_⟩
  rw [rngD_rgI0]
  let stp : Int → Nat → Int := fun t j => t + sgn j * r0.getD j 0 * detN m (rest.map fun r => r.eraseIdx j)
  refine forW_inv2 (α := Int) (S := Int × Sl × Sl × Sl) D.int (fun s => [.wk (.lst ((r0 :: rest).map fun ns => .lst (ns.map .int))), .st (.int s.1), s.2.1, s.2.2.1, s.2.2.2])
    (fun ys xs s => ys ++ xs = rgI 0 (r0 :: rest).length ∧ s.1 = (List.range ys.length).foldl stp 0) ?_ ?_ (rgI 0 (r0 :: rest).length) [] (0, .no, .no, .no) ⟨rfl, rfl⟩
  · rintro ys ⟨t, z1, z2, z3⟩ ⟨h1, h2⟩
    rw [List.append_nil] at h1
    dsimp only at h2
    have hy : ys.length = m + 1 := by rw [h1, rgI_len, hlen]; omega
    subst_eqs
    refine .inl ⟨by decide, ?_⟩
    rw [h2, hy]
    exact q
  · rintro ys x xs ⟨t, z1, z2, z3⟩ J ⟨h1, h2⟩ hJ
    dsimp only at h2
    obtain ⟨hx, hxl⟩ := rgI_at h1
    rw [Int.zero_add] at hx
    generalize hk : ys.length = j at *
    subst hx
    have hj : j < m + 1 := by omega
    subst_eqs
    rw [cutD_tail]
    refine lcW_map (α := Rw) (fun ns => D.lst (ns.map .int)) (fun r => lI (r.eraseIdx j)) rest 0 _ (le_size (by omega)) ?_ ?_
    · intro r hr K1 K2 h
      have hrl : r.length = m + 1 := hal r (List.mem_cons_of_mem _ hr)
      subst_eqs
      have ej : ((j : Nat) : Int) + 1 = ((j + 1 : Nat) : Int) := by omega
      rw [ej, cut_take (by omega), cut_drop (by omega), ← List.map_append, ← List.eraseIdx_eq_take_drop_succ]
      refine ⟨?_, h⟩
      rw [List.length_map, List.length_map, List.length_take, List.length_drop, sizeLine_eq]
      omega
    · have hs1 : sgn j = 1 ∨ sgn j = -1 := by unfold sgn; omega
      have h97 := res_get hres0 j
      have hd := detN_res m (rest.map fun r => r.eraseIdx j)
      have hcm : CMul (sgn j) (r0.getD j 0) := .inr ⟨by omega, by omega⟩
      have hfin := hJ (stp t j, .st (.int j), .st (rwsD (rest.map fun r => r.eraseIdx j)), z3) ⟨by rw [List.append_assoc]; exact h1, ?_⟩
      · refine ⟨by decide, .inl ⟨by decide, by decide⟩, .lst (r0.map .int), (by rw [atI_of (by decide)]; rfl), r0.map .int, rfl, .int (r0.getD j 0), ?_, _, rfl, hcm, ?_⟩
        · exact at_int (by omega)
        · refine ⟨m, rest.map fun r => r.eraseIdx j, by unfold rwsD; rw [List.map_map]; rfl, by omega, by omega, by rw [List.length_map, hrl], ?_, ?_, _, rfl, .inr ⟨by omega, by omega⟩, ?_⟩
          · intro r hr
            obtain ⟨r', hr', rfl⟩ := List.mem_map.mp hr
            have := hal r' (List.mem_cons_of_mem _ hr')
            rw [List.length_eraseIdx, if_pos (by omega)]
            omega
          · intro r hr a ha
            obtain ⟨r', hr', rfl⟩ := List.mem_map.mp hr
            exact hres r' (List.mem_cons_of_mem _ hr') a (List.mem_of_mem_eraseIdx ha)
          · unfold rwsD at hfin
            rw [List.map_map] at hfin
            exact hfin
      · show stp t j = _
        rw [List.length_append, hk, List.length_singleton, List.range_succ, List.foldl_append, ← h2]
        rfl
theorem u__law_det (T : Txt K mg CT CS CB) : ∀ n : Nat, Use P w K mg base "_law_det" n [false] (g_det n)
  | 0 => use_none T.f__law_det rfl fun ds Q ⟨m, _, _, h, _⟩ => absurd h (Nat.not_lt_zero _)
  | n + 1 => s__law_det T (u__law_det T n)
/-- the law's minors of the rows of a lot -/
def sqM (rows : List Rw) (lot chosen : List Int) : List Rw := lot.map fun x => chosen.map fun j => (rows.getD x.toNat []).getD j.toNat 0
def lmM (rows : List Rw) (lot : List Int) (columns : Nat) : Rw := (chs columns lot.length).map fun c => detN lot.length (sqM rows lot c)
def g_lmin : GD := fun ds Q => ∃ (rows : List Rw) (lot : List Int) (columns : Nat), ds = [rwsD rows, tI lot, .int columns] ∧ columns ≤ 8 ∧ lot.length ≤ 8 ∧ AllLen columns rows ∧ (∀ r ∈ rows, Res r) ∧ (∀ x ∈ lot, 0 ≤ x ∧ x < rows.length) ∧ Q (lI (lmM rows lot columns))
theorem sc__law_minors : FnScope ["rows", "lot", "columns", "found", "chosen", "square", "x", "j"] ["rows", "lot", "columns"] (defScope (top 46)) := ⟨rfl, rfl, rfl, by decide +kernel, rfl, by decide +kernel, by decide +kernel⟩
theorem u__law_minors (T : Txt K mg CT CS CB) : Use P w K mg base "_law_minors" 10 [false, false, false] g_lmin := by
  have S := sc__law_minors
  refine T.f__law_minors.use (k := 9) S rfl fun f cdv A outer s H E hr => ⟨_, _, (dss_cons (ds_own (i := 3) S.nd (df_lst da_nil))
      (dss_cons (ds_for PassesOwn.never rfl (dip_seqK (K := K) (Use.deK (K := K) (u__law_tuples T) hr (da_wk (dr 2) (da_wk (DE.w (de_callB (call_lenK (K := K)) lc_len rfl T.b_len (da_wk (dr 1) da_nil))) da_nil)))) (dg_name (i := 4) S.nd) (dss_cons (ds_own (i := 5) S.nd (df_lst da_nil))
      (dss_cons (ds_for PassesOwn.never rfl (dip_nmK (K := K) 1) (dg_name (i := 6) S.nd) (dss_one (ds_app (i := 5) (DF.e (df_lc (own := [("j", 7)]) rfl S.nd (DIp.w (dip_nmK (K := K) 4)) (by kernel_rfl) (fun _ _ _ _ _ => (dg_name (i := 7) S.nd)) (fun _ _ _ _ _ => dts_nil) (fun _ _ _ _ _ => (de_ixK (K := K) (DE.w (de_ixK (K := K) (dr 0) (dr 6))) (dr 7))))))))
      (dss_one (ds_app (i := 3) (Use.deK (K := K) (u__law_det T 9) hr (da_wk (dr 5) da_nil)))))))
      (dss_frz 3 (dss_one (ds_ret (dv 3)))))), fun ds Q hl hg => ?_⟩
  obtain ⟨rows, lot, columns, rfl, hc, hl8, hal, hres, hlot, q⟩ := hg
  unfold tI
  subst_eqs
  intro a
  refine ⟨columns, lot.length, by rw [List.length_map], hc, hl8, ?_⟩
  subst_eqs
  have hcl : (chs (columns : Int) lot.length).length ≤ 16777216 := Nat.le_trans (chs_len (by omega) (by omega) _) (pow8 hl8)
  refine forW_inv2 (α := List Int) (S := Rw × Sl × Sl × Sl × Sl) tI (fun s => [.wk (rwsD rows), .wk (.tup (lot.map .int)), .wk (.int columns), .ow a (s.1.map .int), s.2.1, s.2.2.1, s.2.2.2.1, s.2.2.2.2])
    (fun ys xs s => ys ++ xs = chs columns lot.length ∧ s.1 = ys.map fun c => detN lot.length (sqM rows lot c)) ?_ ?_ (chs columns lot.length) [] ([], .no, .no, .no, .no) ⟨rfl, rfl⟩
  · rintro ys ⟨acc, z1, z2, z3, z4⟩ ⟨h1, h2⟩
    rw [List.append_nil] at h1
    dsimp only at h2
    subst_eqs
    rw [h1] at h2
    have q2 : Q (lI acc) := by rw [h2]; exact q
    exact q2
  · rintro ys c xs ⟨acc, z1, z2, z3, z4⟩ J ⟨h1, h2⟩ hJ
    dsimp only at h2
    have hcm : c ∈ chs columns lot.length := h1 ▸ List.mem_append_right _ List.mem_cons_self
    obtain ⟨hcl1, hcr⟩ := chs_in hcm
    have hyl : ys.length < 16777216 := by
      have := congrArg List.length h1
      rw [List.length_append, List.length_cons] at this
      omega
    have hacc : acc.length < 16777216 := by rw [h2, List.length_map]; exact hyl
    subst_eqs
    intro a2
    refine forW_inv2 (α := Int) (S := List Rw × Sl × Sl) D.int (fun s => [.wk (rwsD rows), .wk (.tup (lot.map .int)), .wk (.int columns), .ow a (acc.map .int), .st (tI c), .ow a2 (s.1.map lI), s.2.1, s.2.2])
      (fun us vs s => us ++ vs = lot ∧ s.1 = sqM rows us c) ?_ ?_ lot [] ([], z3, z4) ⟨rfl, rfl⟩
    · rintro us ⟨sq, z3, z4⟩ ⟨h3, h4⟩
      rw [List.append_nil] at h3
      dsimp only at h4
      rw [h3] at h4
      subst_eqs
      refine ⟨lot.length, sq, rfl, by omega, by omega, ?_, ?_, ?_, ?_⟩
      · rw [h4]; unfold sqM; rw [List.length_map]
      · intro r hr
        rw [h4] at hr
        obtain ⟨x, hx, rfl⟩ := List.mem_map.mp hr
        rw [List.length_map, hcl1]
      · intro r hr b hb
        rw [h4] at hr
        obtain ⟨x, hx, rfl⟩ := List.mem_map.mp hr
        obtain ⟨j, hj, rfl⟩ := List.mem_map.mp hb
        have hxr := hlot x hx
        refine res_get (hres _ ?_) _
        rw [List.getD_eq_getElem?_getD, List.getElem?_eq_getElem (by omega)]
        exact List.getElem_mem _
      · refine ⟨by rw [List.length_map, sizeLine_eq]; exact hacc, ?_⟩
        have := hJ (acc ++ [detN lot.length sq], .st (tI c), .ow a2 (sq.map lI), z3, z4) ⟨by rw [List.append_assoc]; exact h1, by rw [h2, h4, List.map_append]; rfl⟩
        simp only [List.map_append, List.map_cons, List.map_nil] at this
        exact this
    · rintro us x vs ⟨sq, z3, z4⟩ J2 ⟨h3, h4⟩ hJ2
      dsimp only at h4
      have hxm : x ∈ lot := h3 ▸ List.mem_append_right _ List.mem_cons_self
      obtain ⟨hx0, hx1⟩ := hlot x hxm
      have hul : us.length < 8 := by
        have := congrArg List.length h3
        rw [List.length_append, List.length_cons] at this
        omega
      have hrow : (rows.getD x.toNat []).length = columns := rows_len hal hlot _ (List.mem_map.mpr ⟨x, hxm, rfl⟩)
      unfold tI rwsD at *
      subst_eqs
      refine lcW_map (α := Int) D.int (fun j => .int ((rows.getD x.toNat []).getD j.toNat 0)) c 0 _ (le_size (by omega)) ?_ ?_
      · intro j hj K1 K2 h
        obtain ⟨hj0, hj1⟩ := hcr j hj
        subst_eqs
        rw [get_row hx0 hx1]
        refine ⟨_, rfl, (rows.getD x.toNat []).map .int, rfl, ?_⟩
        have ej : j = (j.toNat : Int) := by omega
        have := at_int (r := rows.getD x.toNat []) (j := j.toNat) (by omega)
        rw [← ej] at this
        rw [this]
        exact ⟨_, rfl, h⟩
      · refine ⟨?_, ?_⟩
        · rw [h4, List.length_map, sizeLine_eq]
          unfold sqM
          rw [List.length_map]
          omega
        · have := hJ2 (sq ++ [c.map fun j => (rows.getD x.toNat []).getD j.toNat 0], .st (.int x), z4) ⟨by rw [List.append_assoc]; exact h3, by rw [h4]; unfold sqM; rw [List.map_append]; rfl⟩
          simp only [List.map_append, List.map_cons, List.map_nil, lI, List.map_map] at this
          exact this
end K87
end
section
set_option Elab.async false
set_option linter.all false
set_option maxRecDepth 100000
/-! K12: the law's order, its inverse. -/
namespace K87
open PySem PySem.Spec PyProof.Rows L2 DL SN
variable {P : Program} {w : World} {K : PySem.W.Frag} {mg : Str → Option Value} {base : Heap} {CT CS CB : Addr}
local macro_rules | `(tactic| subst_eqs) => `(tactic| try simp only [wSeq, wNext, wFor, wRng1, wRng2, wRd, wSt, wC, gNm, gTp, gsNil, gsCons, wLc, wLc2, wSeqI, wPs, wYes, wIf, wIfS, wTru, wTest, wAnd, wOr, wNot, wAndV, wOrV, wNotV, wOp, wI0, wI, wIx, wUn, wNeg, wCatT, wCB, wCF, wOpF, wCatL, wRepL, wLen, wIntOf, wMM, wListOf, wTupOf, wSorted, wK, wCons, wNil, wPar, wNoPart, wPart, wEn, wEnN, wEnT, wZp, wInI, wIsN, wNotN, wDGet, wMeth, wMake, wFldC, wCon, wIsi,
  rdSl_st, rdSl_wk, rdSl_ow, rdSl_oT, stSl_st, stSl_wk, truD_bl, truD_int, truD_lst, truD_tup, truD_non, lenD_lst, lenD_tup, lenD_scr, walkD_lst, walkD_tup, seqD_lst, seqD_tup, seqD_scr, solid_int, solid_bl, solid_tup, solid_ins, solid_non, solid_str, isNon_non, isNon_lst, isNon_tup, isNon_int, isNon_bl, frz_ow0, frz_succ, frzS_st, frzS_wk, frzS_ow, frzS_oT, frzS_no,
  startD, startS, wipeD, List.set_cons_zero, List.set_cons_succ, List.getElem?_cons_zero, List.getElem?_cons_succ, List.length_cons, List.length_nil, List.cons_append, List.nil_append, List.map_cons, List.map_nil, List.replicate, Nat.reduceSub, Nat.reduceAdd, Option.some.injEq, Sl.st.injEq, Sl.wk.injEq, Sl.ow.injEq, Sl.oT.injEq, Sl.oI.injEq, D.int.injEq, D.lst.injEq, D.tup.injEq, D.bl.injEq, D.dT.injEq, D.ins.injEq, List.cons.injEq, exists_eq_left, exists_eq_left', exists_eq_right, exists_eq_right', exists_and_left, exists_and_right, and_assoc, decide_eq_true_eq, and_true, true_and, and_self, reduceIte, ite_true, ite_false, Bool.false_eq_true, reduceCtorEq, exists_false, false_and, and_false, exists_const, forall_const])

theorem lexLt_dec : ∀ a b : List Int, HT.lexLt a b = decide (a < b)
  | [], [] => by simp [HT.lexLt]
  | [], _ :: _ => by simp [HT.lexLt]
  | _ :: _, [] => by simp [HT.lexLt]
  | x :: a, y :: b => by
    rw [HT.lexLt_cons, lexLt_dec a b]
    by_cases h : x = y
    · subst h; simp
    · rw [if_neg h]
      simp [List.cons_lt_cons_iff, h]
theorem toPys_ints : ∀ l : List Int, toPys (l.map D.int) = some (l.map PyData.int)
  | [] => by rw [List.map_nil, toPys]; rfl
  | x :: l => by rw [List.map_cons, toPys, toPys_ints l, toPy]; rfl
def itP (i : Item) : PyData := .tuple [.int i.1, .tuple (i.2.map .int)]
theorem toPy_it (i : Item) : toPy (itD i) = some (itP i) := by
  unfold itD tI itP
  rw [toPy, toPys, toPys, toPys, toPy, toPy, toPys_ints]
  rfl
theorem lay_ints : ∀ l : List Int, PyData.canLayAll0 (l.map .int) = true
  | [] => by simp [PyData.canLayAll0]
  | x :: l => by simp [PyData.canLayAll0, PyData.canLay0, lay_ints l]
theorem shaped_it (i : Item) : SeqAt.shaped (itP i) = true := by
  unfold SeqAt.shaped
  rw [Bool.and_eq_true]
  refine ⟨?_, decide_eq_true (Nat.le_trans (depth_pair _ _) (by decide))⟩
  unfold itP
  simp [PyData.canLay0, PyData.canLayAll0, lay_ints]
theorem eqv_it (i j : Item) : PyData.eqv (itP i) (itP j) = decide (i = j) := by
  obtain ⟨x, a⟩ := i
  obtain ⟨y, b⟩ := j
  unfold itP
  simp only [PyData.eqv, PyData.eqvAll, eqvAll_ints]
  by_cases h : x = y <;> by_cases h2 : a = b <;> simp [h, h2]
theorem itD_0 (i : Item) : atI [D.int i.1, tI i.2] 0 = some (.int i.1) := rfl
def g_before : GD := fun ds Q => ∃ i j : Item, ds = [itD i, itD j] ∧ Q (.bl (bef i j))
theorem sc__law_before : FnScope ["one", "other"] ["one", "other"] (defScope (top 42)) := ⟨rfl, rfl, rfl, by decide +kernel, rfl, by decide +kernel, by decide +kernel⟩
theorem u__law_before (T : Txt K mg CT CS CB) : Use P w K mg base "_law_before" 2 [false, false] g_before := by
  have S := sc__law_before
  refine T.f__law_before.use (k := 1) S rfl fun f cdv A outer s H E hr => ⟨_, _, (dss_cons (ds_if (dt_cmp op_ne lo_neI (DE.w (de_ixK (K := K) (dr 0) (DE.w de_int))) (DE.w (de_ixK (K := K) (dr 1) (DE.w de_int))) (nomark _)) (dss_one (ds_ret (de_cmp op_gt lo_B0 (DE.w (de_ixK (K := K) (dr 0) (DE.w de_int))) (DE.w (de_ixK (K := K) (dr 1) (DE.w de_int))) (nomark _)))) dss_nil)
      (dss_one (ds_ret (de_cmp (op_ltTK (K := K) hr.units0) lo_ltT (DE.w (de_ixK (K := K) (dr 0) (DE.w de_int))) (DE.w (de_ixK (K := K) (dr 1) (DE.w de_int))) (nomark _))))), fun ds Q hl hg => ?_⟩
  obtain ⟨i, j, rfl, q⟩ := hg
  unfold itD at *
  subst_eqs
  refine ⟨.int i.1, rfl, .int j.1, rfl, _, rfl, _, rfl, ?_⟩
  by_cases h : i.1 = j.1
  · rw [if_neg (by simp [h])]
    refine ⟨tI i.2, rfl, tI j.2, rfl, i.2, j.2, rfl, rfl, ?_⟩
    rw [lexLt_dec]
    unfold bef at q
    rw [if_neg (by simp [h])] at q
    exact q
  · rw [if_pos (by simp [h])]
    refine ⟨.int i.1, rfl, .int j.1, rfl, _, rfl, _, rfl, ?_⟩
    unfold bef at q
    rw [if_pos h] at q
    exact q
/-- how many rank before i at the front -/
def twN (i : Item) : List Item → Nat
  | [] => 0
  | j :: l => if bef j i = true then twN i l + 1 else 0
theorem twN_le (i : Item) : ∀ l, twN i l ≤ l.length
  | [] => Nat.le_refl _
  | j :: l => by
    unfold twN
    have := twN_le i l
    rw [List.length_cons]
    split <;> omega
theorem twN_at (i : Item) : ∀ (l : List Item) (p : Nat), p < l.length → p ≤ twN i l → bef (l.getD p (0, [])) i = decide (p < twN i l)
  | [], p, h, _ => absurd h (Nat.not_lt_zero _)
  | j :: l, p, h, h2 => by
    unfold twN at *
    by_cases c : bef j i = true
    · rw [if_pos c] at *
      cases p with
      | zero => rw [List.getD_cons_zero, c]; simp
      | succ p =>
        rw [List.getD_cons_succ, twN_at i l p (by rw [List.length_cons] at h; omega) (by omega)]
        simp
    · rw [if_neg c] at *
      have : p = 0 := by omega
      subst this
      rw [List.getD_cons_zero]
      simp [c]
theorem insR_eq (i : Item) : ∀ l : List Item, insR i l = if twN i l = l.length ∨ l.getD (twN i l) (0, []) ≠ i then l.take (twN i l) ++ [i] ++ l.drop (twN i l) else l
  | [] => by unfold insR twN; simp
  | j :: l => by
    unfold insR twN
    by_cases c : bef j i = true
    · rw [if_pos c, if_pos c, insR_eq i l, List.length_cons, List.getD_cons_succ, List.take_succ_cons, List.drop_succ_cons]
      by_cases d : twN i l = l.length ∨ l.getD (twN i l) (0, []) ≠ i
      · rw [if_pos d, if_pos (d.imp (congrArg (· + 1)) id)]
        rfl
      · rw [if_neg d, if_neg (fun z => d (z.imp (fun z => by omega) id))]
    · rw [if_neg c, if_neg c, List.getD_cons_zero]
      by_cases d : i = j
      · rw [if_pos d, if_neg (by simp [d])]
      · rw [if_neg d, if_pos (.inr (Ne.symm d))]
        rfl
theorem insR_len (i : Item) (l : List Item) : (insR i l).length ≤ l.length + 1 := by
  have := twN_le i l
  rw [insR_eq]
  split
  · rw [List.length_append, List.length_append, List.length_take, List.length_drop, List.length_singleton]
    omega
  · omega
theorem get_it {l : List Item} {p : Nat} (h : p < l.length) : atI (l.map itD) (p : Int) = some (itD (l.getD p (0, []))) := by
  rw [atI_of (Int.natCast_nonneg p), Int.toNat_natCast, List.getElem?_map, List.getElem?_eq_getElem h, List.getD_eq_getElem?_getD, List.getElem?_eq_getElem h]
  rfl
def g_by_rank : GD := fun ds Q => ∃ items : List Item, ds = [.lst (items.map itD)] ∧ items.length ≤ 100 ∧ Q (.lst ((rkM items).map itD))
theorem sc__law_by_rank : FnScope ["items", "found", "item", "place"] ["items"] (defScope (top 47)) := ⟨rfl, rfl, rfl, by decide +kernel, rfl, by decide +kernel, by decide +kernel⟩
theorem u__law_by_rank (T : Txt K mg CT CS CB) : Use P w K mg base "_law_by_rank" 3 [false] g_by_rank := by
  have S := sc__law_by_rank
  refine T.f__law_by_rank.use (k := 2) S rfl fun f cdv A outer s H E hr => ⟨_, _, (dss_cons (ds_own (i := 1) S.nd (df_lst da_nil))
      (dss_cons (ds_for PassesOwn.never rfl (dip_nmK (K := K) 0) (dg_name (i := 2) S.nd) (dss_cons (ds_set (i := 3) S.nd de_int)
      (dss_cons (ds_while PassesOwn.never (DTW.t (dw_and (dt_cmp op_lt lo_B0 (dr 3) (DE.w (de_callB (call_lenK (K := K)) lc_len rfl T.b_len (da_wk (dr 1) da_nil))) (nomark _)) (dw_and1 (dt_val (Use.deK (K := K) (u__law_before T) hr (da_wk (DE.w (de_ixK (K := K) (dr 1) (dr 3))) (da_wk (dr 2) da_nil))))))) (dss_one (ds_set (i := 3) S.nd (de_op op_add lo_I0 (dr 3) (DE.w de_int)))))
      (dss_one (ds_if (DTW.t (dw_or (dt_cmp op_eq lo_eqI (dr 3) (DE.w (de_callB (call_lenK (K := K)) lc_len rfl T.b_len (da_wk (dr 1) da_nil))) (nomark _)) (dw_or1 (dt_cmp (op_neDK (K := K) hr.units) lo_neD (DE.w (de_ixK (K := K) (dr 1) (dr 3))) (dr 2) (nomark _))))) (dss_one (ds_ins (i := 1) (dv 3) (dv 2))) dss_nil)))))
      (dss_frz 1 (dss_one (ds_ret (dv 1)))))), fun ds Q hl hg => ?_⟩
  obtain ⟨items, rfl, hl, q⟩ := hg
  subst_eqs
  intro a
  refine forW_inv2 (α := Item) (S := List Item × Sl × Sl) itD (fun s => [.wk (.lst (items.map itD)), .ow a (s.1.map itD), s.2.1, s.2.2])
    (fun ys xs s => ys ++ xs = items ∧ s.1 = rkM ys ∧ s.1.length ≤ ys.length) ?_ ?_ items [] ([], .no, .no) ⟨rfl, rfl, Nat.le_refl _⟩
  · rintro ys ⟨acc, z1, z2⟩ ⟨h1, h2, h3⟩
    rw [List.append_nil] at h1
    dsimp only at h2 h3
    subst_eqs
    rw [h2, h1]
    exact q
  · rintro ys x xs ⟨l, z1, z2⟩ J ⟨h1, h2, h3⟩ hJ
    dsimp only at h2 h3
    have hyl : ys.length < 100 := by
      have := congrArg List.length h1
      rw [List.length_append, List.length_cons] at this
      omega
    have hrk : rkM (ys ++ [x]) = insR x l := by
      unfold rkM at *
      rw [List.foldl_append, ← h2]
      rfl
    have fin : J [.wk (.lst (items.map itD)), .ow a ((insR x l).map itD), .st (itD x), .st (.int (twN x l : Nat))] :=
      hJ (insR x l, .st (itD x), .st (.int (twN x l : Nat))) ⟨by rw [List.append_assoc]; exact h1, hrk.symm, by
        have := insR_len x l
        rw [List.length_append]
        show (insR x l).length ≤ ys.length + 1
        omega⟩
    subst_eqs
    refine while_inv (S := Nat) (fun p => [.wk (.lst (items.map itD)), .ow a (l.map itD), .st (itD x), .st (.int (p : Nat))]) (fun p => p ≤ twN x l) (fun p => l.length - p) ?_ 0 (Nat.zero_le _)
    intro p K2 hp hK
    have htl := twN_le x l
    have done : p = twN x l → (if (p : Int) = ((List.map itD l).length : Nat) then (List.map itD l).length < sizeLine ∧ 0 ≤ (p : Int) ∧ (p : Int) < 2 ^ 63 ∧ J [.wk (.lst (items.map itD)), .ow a (List.take p (l.map itD) ++ [itD x] ++ List.drop p (l.map itD)), .st (itD x), .st (.int (p : Nat))]
        else ∃ y, atI (l.map itD) p = some y ∧ wPy (fun a b => !a.eqv b) y (itD x) fun d => ∃ k, d = D.bl k ∧ if k = true then (List.map itD l).length < sizeLine ∧ 0 ≤ (p : Int) ∧ (p : Int) < 2 ^ 63 ∧ J [.wk (.lst (items.map itD)), .ow a (List.take p (l.map itD) ++ [itD x] ++ List.drop p (l.map itD)), .st (itD x), .st (.int (p : Nat))] else J [.wk (.lst (items.map itD)), .ow a (l.map itD), .st (itD x), .st (.int (p : Nat))]) := by
      intro e
      rw [← e] at fin
      have big : (List.map itD l).length < sizeLine := by rw [List.length_map, sizeLine_eq]; omega
      have e2 := insR_eq x l
      rw [← e] at e2
      by_cases c : p = l.length
      · rw [if_pos (by rw [List.length_map, c])]
        rw [if_pos (.inl c)] at e2
        rw [e2, List.map_append, List.map_append, List.map_take, List.map_drop] at fin
        exact ⟨big, by omega, by omega, fin⟩
      · rw [if_neg (by rw [List.length_map]; omega), get_it (by omega)]
        refine ⟨_, rfl, itP _, itP x, toPy_it _, toPy_it _, shaped_it _, shaped_it _, _, rfl, ?_⟩
        show if (!(itP (l.getD p (0, []))).eqv (itP x)) = true then _ else _
        rw [eqv_it]
        by_cases d : l.getD p (0, []) = x
        · rw [decide_eq_true d, if_neg (by decide)]
          rw [if_neg (fun z => z.elim c fun z => z d)] at e2
          rw [e2] at fin
          exact fin
        · rw [decide_eq_false d, if_pos (by decide)]
          rw [if_pos (.inr d)] at e2
          rw [e2, List.map_append, List.map_append, List.map_take, List.map_drop] at fin
          exact ⟨big, by omega, by omega, fin⟩
    subst_eqs
    simp only [Int.toNat_natCast]
    by_cases c : p < l.length
    · rw [if_pos (by rw [List.length_map]; omega), get_it c]
      refine ⟨_, rfl, _, _, rfl, _, rfl, ?_⟩
      rw [twN_at x l p c hp]
      by_cases d : p < twN x l
      · rw [if_pos (by simpa using d)]
        exact hK (p + 1) d (by omega)
      · rw [if_neg (by simpa using d), ← get_it c]
        exact done (by omega)
    · rw [if_neg (by rw [List.length_map]; omega)]
      exact done (by omega)
def g_linv : GD := fun ds Q => ∃ n : Int, ds = [.int n] ∧ 0 < n ∧ n < 97 ∧ ∀ k : Int, 0 < k → k < 97 → k * n % 97 = 1 → Q (.int k)
theorem sc__law_inverse : FnScope ["number", "k"] ["number"] (defScope (top 49)) := ⟨rfl, rfl, rfl, by decide +kernel, rfl, by decide +kernel, by decide +kernel⟩
theorem u__law_inverse (T : Txt K mg CT CS CB) : Use P w K mg base "_law_inverse" 2 [false] g_linv := by
  have S := sc__law_inverse
  refine T.f__law_inverse.use (k := 1) S rfl fun f cdv A outer s H E hr => ⟨_, _, (dss_cons (ds_for PassesOwn.never rfl (di_rng2 rfl T.b_range (da_wk (DE.w de_int) (da_wk (DE.w de_int) da_nil))) (dg_name (i := 1) S.nd) (dss_one (ds_if (dt_cmp op_eq lo_eqI (DE.w (de_op op_mod lo_I (DE.w (de_callT call_int1 lc_int rfl T.b_int (da_wk (DE.w (de_op op_mul lo_I (dr 1) (dr 0))) da_nil))) (DE.w de_int))) (DE.w de_int) (nomark _)) (dss_one (ds_ret (dv 1))) dss_nil)))
      (dss_one (ds_ret de_int))), fun ds Q hl hg => ?_⟩
  obtain ⟨n, rfl, h0, h1, q⟩ := hg
  subst_eqs
  refine ⟨by unfold Rg; decide, by unfold Rg; decide, ?_⟩
  have ex : ∀ n : Fin 97, n.val ≠ 0 → ∃ k : Fin 97, k.val ≠ 0 ∧ k.val * n.val % 97 = 1 := by decide +kernel
  obtain ⟨k0, hk0, hk1⟩ := ex ⟨n.toNat, by omega⟩ (by show n.toNat ≠ 0; omega)
  have hkn : (k0.val : Int) * n % 97 = 1 := by
    have : ((k0.val * n.toNat % 97 : Nat) : Int) = 1 := by rw [hk1]; rfl
    rw [Int.natCast_emod, Int.natCast_mul, Int.toNat_of_nonneg (by omega)] at this
    exact this
  rw [rngD_rgI]
  refine forW_inv2 (α := Int) (S := Sl) D.int (fun s => [.wk (.int n), s]) (fun ys xs _ => ys ++ xs = rgI 1 97 ∧ ((k0.val : Nat) : Int) ∉ ys) ?_ ?_ (rgI 1 97) [] .no ⟨rfl, fun z => nomatch z⟩
  · rintro ys z ⟨h2, h3⟩
    rw [List.append_nil] at h2
    rw [h2] at h3
    exact absurd (mem_rgI.mpr ⟨by omega, by have := k0.isLt; omega⟩) h3
  · rintro ys k xs z J ⟨h2, h3⟩ hJ
    obtain ⟨hk2, hk3⟩ := mem_rgI.mp (h2 ▸ List.mem_append_right ys List.mem_cons_self)
    subst_eqs
    refine ⟨.inl ⟨by omega, by omega⟩, ?_⟩
    refine .inl ⟨by decide, ?_⟩
    by_cases c : k * n % 97 = 1
    · rw [if_pos c]
      exact q k (by omega) hk3 c
    · rw [if_neg c]
      refine hJ _ ⟨by rw [List.append_assoc]; exact h2, fun hm => ?_⟩
      rcases List.mem_append.mp hm with hm | hm
      · exact h3 hm
      · rw [← List.mem_singleton.mp hm] at c
        exact c hkn
end K87
end
section
set_option Elab.async false
set_option linter.all false
set_option maxRecDepth 100000
/-! K13: the law's elimination. -/
namespace K87
open PySem PySem.Spec PyProof.Rows L2 DL SN
variable {P : Program} {w : World} {K : PySem.W.Frag} {mg : Str → Option Value} {base : Heap} {CT CS CB : Addr}
local macro_rules | `(tactic| subst_eqs) => `(tactic| try simp only [wSeq, wNext, wFor, wRng1, wRng2, wRd, wSt, wC, gNm, gTp, gsNil, gsCons, wLc, wLc2, wSeqI, wPs, wYes, wIf, wIfS, wTru, wTest, wAnd, wOr, wNot, wAndV, wOrV, wNotV, wOp, wI0, wI, wIx, wUn, wNeg, wCatT, wCB, wCF, wOpF, wCatL, wRepL, wLen, wIntOf, wMM, wListOf, wTupOf, wSorted, wK, wCons, wNil, wPar, wNoPart, wPart, wEn, wEnN, wEnT, wZp, wInI, wIsN, wNotN, wDGet, wMeth, wMake, wFldC, wCon, wIsi,
  rdSl_st, rdSl_wk, rdSl_ow, rdSl_oT, stSl_st, stSl_wk, truD_bl, truD_int, truD_lst, truD_tup, truD_non, lenD_lst, lenD_tup, lenD_scr, walkD_lst, walkD_tup, seqD_lst, seqD_tup, seqD_scr, solid_int, solid_bl, solid_tup, solid_ins, solid_non, solid_str, isNon_non, isNon_lst, isNon_tup, isNon_int, isNon_bl, frz_ow0, frz_succ, frzS_st, frzS_wk, frzS_ow, frzS_oT, frzS_no,
  startD, startS, wipeD, List.set_cons_zero, List.set_cons_succ, List.getElem?_cons_zero, List.getElem?_cons_succ, List.length_cons, List.length_nil, List.cons_append, List.nil_append, List.map_cons, List.map_nil, List.replicate, Nat.reduceSub, Nat.reduceAdd, Option.some.injEq, Sl.st.injEq, Sl.wk.injEq, Sl.ow.injEq, Sl.oT.injEq, Sl.oI.injEq, D.int.injEq, D.lst.injEq, D.tup.injEq, D.bl.injEq, D.dT.injEq, D.ins.injEq, List.cons.injEq, exists_eq_left, exists_eq_left', exists_eq_right, exists_eq_right', exists_and_left, exists_and_right, and_assoc, decide_eq_true_eq, and_true, true_and, and_self, reduceIte, ite_true, ite_false, Bool.false_eq_true, reduceCtorEq, exists_false, false_and, and_false, exists_const, forall_const])

def elR (width : Nat) (lead : Rw) (c : Nat) (row : Rw) : Rw := (List.range width).map fun j => (lead.getD c 0 * row.getD j 0 - row.getD c 0 * lead.getD j 0) % 97
def elC (width : Nat) (act : List Rw) (c : Nat) : List Rw := match act.findIdx? (fun r => decide (r.getD c 0 % 97 ≠ 0)) with
  | none => act
  | some i => ((act.set i (act.getD 0 [])).tail).map (elR width (act.getD i []) c)
def elF (width : Nat) (rows : List Rw) : List Rw := (List.range width).foldl (elC width) rows
def g_lfree : GD := fun ds Q => ∃ (width : Nat) (rows : List Rw), ds = [rwsD rows, .int width] ∧ width ≤ 1000 ∧ rows.length ≤ 1000 ∧ AllLen width rows ∧ (∀ r ∈ rows, Res r) ∧ Q (.bl (elF width rows).isEmpty)
theorem sc__law_free : FnScope ["rows", "width", "rest", "row", "done", "column", "at", "k", "lead", "own", "j"] ["rows", "width"] (defScope (top 38)) := ⟨rfl, rfl, rfl, by decide +kernel, rfl, by decide +kernel, by decide +kernel⟩
theorem u__law_free (T : Txt K mg CT CS CB) : Use P w K mg base "_law_free" 2 [false, false] g_lfree := by
  have S := sc__law_free
  refine T.f__law_free.use (k := 1) S rfl fun f cdv A outer s H E hr => ⟨_, _, (dss_cons (ds_own (i := 2) S.nd (df_lc (own := [("row", 3)]) rfl S.nd (DIp.w (dip_nmK (K := K) 0)) (by kernel_rfl) (fun _ _ _ _ _ => (dg_name (i := 3) S.nd)) (fun _ _ _ _ _ => dts_nil) (fun _ _ _ _ _ => (DF.e (df_callT (call_list_ofK (K := K)) lc_list rfl T.b_list (da_wk (dr 3) da_nil))))))
      (dss_cons (ds_set (i := 4) S.nd de_int)
      (dss_cons (ds_for PassesOwn.never rfl (di_rng1 rfl T.b_range (da_wk (dr 1) da_nil)) (dg_name (i := 5) S.nd) (dss_cons (ds_set (i := 6) S.nd (de_neg (DE.w de_int)))
      (dss_cons (ds_for PassesOwn.never rfl (di_rng2 rfl T.b_range (da_wk (dr 4) (da_wk (DE.w (de_callB (call_lenK (K := K)) lc_len rfl T.b_len (da_wk (dr 2) da_nil))) da_nil))) (dg_name (i := 7) S.nd) (dss_one (ds_if (DTW.t (dw_and (dt_cmp op_lt lo_B0 (dr 6) (DE.w de_int) (nomark _)) (dw_and1 (dt_cmp op_ne lo_neI (DE.w (de_op op_mod lo_I (DE.w (de_callT call_int1 lc_int rfl T.b_int (da_wk (DE.w (de_ixK (K := K) (DE.w (de_ixK (K := K) (dr 2) (dr 7))) (dr 5))) da_nil))) (DE.w de_int))) (DE.w de_int) (nomark _))))) (dss_one (ds_set (i := 6) S.nd (dv 7))) dss_nil)))
      (dss_one (ds_if (dt_cmp op_ge lo_B0 (dr 6) (DE.w de_int) (nomark _)) (dss_cons (ds_set (i := 8) S.nd (de_ixK (K := K) (dr 2) (dr 6)))
      (dss_cons (ds_sub (i := 2) (de_ixK (K := K) (dr 2) (dr 4)) (dv 6))
      (dss_cons (ds_sub (i := 2) (dv 8) (dv 4))
      (dss_cons (ds_for PassesOwn.never rfl (di_rng2 rfl T.b_range (da_wk (DE.w (de_op op_add lo_I0 (dr 4) (DE.w de_int))) (da_wk (DE.w (de_callB (call_lenK (K := K)) lc_len rfl T.b_len (da_wk (dr 2) da_nil))) da_nil))) (dg_name (i := 7) S.nd) (dss_cons (ds_set (i := 9) S.nd (de_ixK (K := K) (DE.w (de_ixK (K := K) (dr 2) (dr 7))) (dr 5)))
      (dss_one (ds_sub (i := 2) (DF.e (df_lc (own := [("j", 10)]) rfl S.nd (DIp.w (di_rng1 rfl T.b_range (da_wk (dr 1) da_nil))) (by kernel_rfl) (fun _ _ _ _ _ => (dg_name (i := 10) S.nd)) (fun _ _ _ _ _ => dts_nil) (fun _ _ _ _ _ => (de_op op_mod lo_I (DE.w (de_op op_sub lo_I0 (DE.w (de_op op_mul lo_I (DE.w (de_ixK (K := K) (dr 8) (dr 5))) (DE.w (de_ixK (K := K) (DE.w (de_ixK (K := K) (dr 2) (dr 7))) (dr 10))))) (DE.w (de_op op_mul lo_I (dr 9) (DE.w (de_ixK (K := K) (dr 8) (dr 10))))))) (DE.w de_int))))) (dv 7)))))
      (dss_one (ds_set (i := 4) S.nd (de_op op_add lo_I0 (dr 4) (DE.w de_int)))))))) dss_nil)))))
      (dss_one (ds_ret (de_cmp op_eq lo_eqI (dr 4) (DE.w (de_callB (call_lenK (K := K)) lc_len rfl T.b_len (da_wk (dr 0) da_nil))) (nomark _))))))), fun ds Q hl hg => ?_⟩
  obtain ⟨width, rows, rfl, hw, hn, hal, hres, q⟩ := hg
  unfold rwsD
  subst_eqs
  refine lcW_map (α := Rw) lI lI rows 0 _ (le_size (by omega)) ?_ ?_
  · intro r hr K1 K2 h
    unfold lI at *
    subst_eqs
    exact h
  intro a
  refine ⟨by unfold Rg; omega, ?_⟩
  rw [rngD_rgI0]
  let mk : List Rw → List Rw → Sl → Sl → Sl → Sl → Sl → St' := fun pre act s5 s6 s7 s8 s9 => [.wk (.lst (rows.map lI)), .wk (.int width), .ow a ((pre ++ act).map lI), .no, .st (.int (pre.length : Nat)), s5, s6, s7, s8, s9, .no]
  refine forW_inv2 (α := Int) (S := List Rw × List Rw × Sl × Sl × Sl × Sl × Sl) D.int (fun s => mk s.1 s.2.1 s.2.2.1 s.2.2.2.1 s.2.2.2.2.1 s.2.2.2.2.2.1 s.2.2.2.2.2.2)
    (fun ys xs s => ys ++ xs = rgI 0 width ∧ s.1.length + s.2.1.length = rows.length ∧ s.2.1 = (List.range ys.length).foldl (elC width) rows ∧ AllLen width s.2.1 ∧ ∀ r ∈ s.2.1, Res r) ?_ ?_ (rgI 0 width) [] ([], rows, .no, .no, .no, .no, .no) ⟨rfl, Nat.zero_add _, rfl, hal, hres⟩
  · rintro ys ⟨pre, act, z5, z6, z7, z8, z9⟩ ⟨h1, h2, h3, h4, h5⟩
    rw [List.append_nil] at h1
    dsimp only at h2 h3
    simp only [mk]
    subst_eqs
    have hy : ys.length = width := by rw [h1, rgI_len]; omega
    rw [hy] at h3
    have e : (elF width rows).isEmpty = decide (((pre.length : Nat) : Int) = ((rows.map lI).length : Nat)) := by
      rw [show elF width rows = act from h3.symm, List.length_map]
      cases act with
      | nil => rw [List.length_nil] at h2; simp; omega
      | cons r act => rw [List.length_cons] at h2; simp; omega
    rw [← e]
    exact q
  · rintro ys x xs ⟨pre, act, z5, z6, z7, z8, z9⟩ J ⟨h1, h2, h3, h4, h5⟩ hJ
    dsimp only at h2 h3 h4 h5
    obtain ⟨hx, hxl⟩ := rgI_at h1
    rw [Int.zero_add] at hx
    generalize hk : ys.length = c at *
    subst hx
    have next : ∀ (pre' act' : List Rw) (s6 s7 s8 s9 : Sl), pre'.length + act'.length = rows.length → act' = elC width act c → AllLen width act' → (∀ r ∈ act', Res r) → J (mk pre' act' (.st (.int (c : Nat))) s6 s7 s8 s9) := by
      intro pre' act' s6 s7 s8 s9 e1 e2 e3 e4
      refine hJ (pre', act', .st (.int (c : Nat)), s6, s7, s8, s9) ⟨by rw [List.append_assoc]; exact h1, e1, ?_, e3, e4⟩
      show act' = _
      rw [List.length_append, hk, List.length_singleton, List.range_succ, List.foldl_append, e2, h3]
      rfl
    simp only [mk] at *
    subst_eqs
    rw [List.length_map, List.length_append]
    refine ⟨by unfold Rg; omega, by unfold Rg; omega, ?_⟩
    rw [rngD_rgI]
    let pr : Rw → Bool := fun r => decide (r.getD c 0 % 97 ≠ 0)
    let fat : List Rw → Int := fun l => match l.findIdx? pr with | none => -1 | some i => (pre.length : Int) + (i : Nat)
    refine forW_inv2 (α := Int) (S := Int × Sl) D.int (fun s => [.wk (.lst (rows.map lI)), .wk (.int width), .ow a ((pre ++ act).map lI), .no, .st (.int (pre.length : Nat)), .st (.int (c : Nat)), .st (.int s.1), s.2, z8, z9, .no])
      (fun us vs s => us ++ vs = rgI pre.length ((pre.length + act.length : Nat) : Int) ∧ s.1 = fat (act.take us.length)) ?_ ?_ (rgI pre.length ((pre.length + act.length : Nat) : Int)) [] (-1, z7) ⟨rfl, rfl⟩
    · rintro us ⟨at_, z7⟩ ⟨h6, h7⟩
      rw [List.append_nil] at h6
      dsimp only at h7
      have hul : us.length = act.length := by rw [h6, rgI_len]; omega
      rw [hul, List.take_length] at h7
      subst_eqs
      cases e : act.findIdx? pr with
      | none =>
        simp only [fat, e] at h7
        rw [if_neg (by omega)]
        have he : act = elC width act c := by
          unfold elC
          rw [show act.findIdx? (fun r => decide (r.getD c 0 % 97 ≠ 0)) = none from e]
        exact next pre act _ _ _ _ h2 he h4 h5
      | some i =>
        simp only [fat, e] at h7
        obtain ⟨hi, _, _⟩ := List.findIdx?_eq_some_iff_getElem.mp e
        have he : elC width act c = ((act.set i (act.getD 0 [])).tail).map (elR width (act.getD i []) c) := by
          unfold elC
          rw [show act.findIdx? (fun r => decide (r.getD c 0 % 97 ≠ 0)) = some i from e]
        have ei : act.getD i [] = act[i] := by rw [List.getD_eq_getElem?_getD, List.getElem?_eq_getElem hi]; rfl
        have e0 : act.getD 0 [] = act[0]'(by omega) := by rw [List.getD_eq_getElem?_getD, List.getElem?_eq_getElem (by omega)]; rfl
        generalize hld : act.getD i [] = lead at *
        generalize ha0 : act.getD 0 [] = act0 at *
        generalize htl : (act.set i act0).tail = tail at *
        have hllen : lead.length = width := by rw [ei]; exact h4 _ (List.getElem_mem _)
        have hlres : Res lead := by rw [ei]; exact h5 _ (List.getElem_mem _)
        have hsub : ∀ r ∈ tail, r ∈ act := by
          intro r hr
          rw [← htl] at hr
          rcases List.mem_or_eq_of_mem_set (List.mem_of_mem_tail hr) with h | h
          · exact h
          · rw [h, e0]; exact List.getElem_mem _
        have htlen : tail.length + 1 = act.length := by rw [← htl, List.length_tail, List.length_set]; omega
        have e3 : ((List.map lI (pre ++ act)).set (pre.length + i) (lI act0)).set pre.length (lI lead) = List.map lI ((pre ++ [lead]) ++ tail) := by
          rw [← List.map_set, ← List.map_set, List.set_append_right _ _ (by omega), show pre.length + i - pre.length = i by omega, List.set_append_right _ _ (Nat.le_refl _), Nat.sub_self, ← htl, List.append_assoc]
          congr 2
          cases hs : act.set i act0 with
          | nil => have := congrArg List.length hs; rw [List.length_set] at this; simp at this; rw [this] at hi; exact absurd hi (Nat.not_lt_zero _)
          | cons u v => rfl
        rw [if_pos (by omega), h7]
        refine ⟨lI lead, ?_, lI act0, ?_, pre.length + i, ?_, pre.length, ?_, ?_⟩
        · rw [← Int.natCast_add, DL.atI_nat, List.getElem?_map, List.getElem?_append_right (by omega), show pre.length + i - pre.length = i by omega, List.getElem?_eq_getElem hi, ei]
          rfl
        · rw [DL.atI_nat, List.getElem?_map, List.getElem?_append_right (by omega), Nat.sub_self, List.getElem?_eq_getElem (by omega), e0]
          rfl
        · rw [← Int.natCast_add, ixN_of (by omega) (by rw [List.length_map, List.length_append]; omega), Int.toNat_natCast]
        · rw [ixN_of (by omega) (by rw [List.length_set, List.length_map, List.length_append]; omega), Int.toNat_natCast]
        · rw [e3]
          have hlen3 : (List.map lI (pre ++ [lead] ++ tail)).length = rows.length := by
            rw [List.length_map, List.length_append, List.length_append, List.length_singleton]
            omega
          rw [hlen3]
          refine ⟨by unfold Rg; omega, by unfold Rg; omega, ?_⟩
          rw [rngD_rgI]
          refine forW_inv2 (α := Int) (S := List Rw × List Rw × Sl × Sl) D.int (fun s => [.wk (.lst (rows.map lI)), .wk (.int width), .ow a ((pre ++ [lead] ++ (s.1 ++ s.2.1)).map lI), .no, .st (.int (pre.length : Nat)), .st (.int (c : Nat)), .st (.int ((pre.length : Int) + (i : Nat))), s.2.2.1, .st (lI lead), s.2.2.2, .no])
            (fun us vs s => us ++ vs = rgI ((pre.length : Int) + 1) (rows.length : Nat) ∧ s.1 = (tail.take us.length).map (elR width lead c) ∧ s.2.1 = tail.drop us.length) ?_ ?_ (rgI ((pre.length : Int) + 1) (rows.length : Nat)) [] ([], tail, z7, z9) ⟨rfl, rfl, rfl⟩
          · rintro us ⟨dn, td, z7, z9⟩ ⟨h8, h9, h10⟩
            rw [List.append_nil] at h8
            dsimp only at h9 h10
            have hul : us.length = tail.length := by rw [h8, rgI_len]; omega
            rw [hul] at h9 h10
            rw [List.take_length] at h9
            rw [List.drop_length] at h10
            subst_eqs
            have := next (pre ++ [lead]) (tail.map (elR width lead c)) (.st (.int ((pre.length : Int) + (i : Nat)))) z7 (.st (lI lead)) z9 ?_ he.symm ?_ ?_
            · rw [List.length_append, List.length_singleton, Int.natCast_add] at this
              rw [h9, h10, List.append_nil]
              exact this
            · rw [List.length_append, List.length_singleton, List.length_map]
              omega
            · intro r hr
              obtain ⟨r', _, rfl⟩ := List.mem_map.mp hr
              unfold elR
              rw [List.length_map, List.length_range]
            · intro r hr b hb
              obtain ⟨r', _, rfl⟩ := List.mem_map.mp hr
              obtain ⟨j, _, rfl⟩ := List.mem_map.mp hb
              exact ⟨Int.emod_nonneg _ (by decide), Int.emod_lt_of_pos _ (by decide)⟩
          · rintro us y vs ⟨dn, td, z7, z9⟩ J2 ⟨h8, h9, h10⟩ hJ2
            dsimp only at h9 h10
            obtain ⟨hy, hyl⟩ := rgI_at h8
            have hut : us.length < tail.length := by omega
            have hdn : dn.length = us.length := by rw [h9, List.length_map, List.length_take]; omega
            have htd : td = tail[us.length] :: tail.drop (us.length + 1) := by rw [h10, List.drop_eq_getElem_cons hut]
            generalize hr : tail[us.length] = r at *
            have hrm : r ∈ act := hsub r (hr ▸ List.getElem_mem _)
            have hrl := h4 r hrm
            have hrr := h5 r hrm
            have hat : atI (List.map lI (pre ++ [lead] ++ (dn ++ td))) y = some (lI r) := by
              rw [hy, show ((pre.length : Int) + 1 + (us.length : Nat)) = ((pre.length + 1 + us.length : Nat) : Int) by omega, DL.atI_nat, List.getElem?_map, ← List.append_assoc, List.getElem?_append_right (by rw [List.length_append, List.length_append, List.length_singleton]; omega),
                show pre.length + 1 + us.length - (pre ++ [lead] ++ dn).length = 0 by rw [List.length_append, List.length_append, List.length_singleton]; omega, htd]
              rfl
            have hset : (List.map lI (pre ++ [lead] ++ (dn ++ td))).set (pre.length + 1 + us.length) (lI (elR width lead c r)) = List.map lI (pre ++ [lead] ++ (dn ++ [elR width lead c r] ++ tail.drop (us.length + 1))) := by
              rw [← List.map_set, ← List.append_assoc, List.set_append_right _ _ (by rw [List.length_append, List.length_append, List.length_singleton]; omega),
                show pre.length + 1 + us.length - (pre ++ [lead] ++ dn).length = 0 by rw [List.length_append, List.length_append, List.length_singleton]; omega, htd, List.set_cons_zero]
              simp only [List.append_assoc, List.cons_append, List.nil_append]
            have nx2 := hJ2 (dn ++ [elR width lead c r], tail.drop (us.length + 1), .st (.int y), .st (.int (r.getD c 0))) ⟨by rw [List.append_assoc]; exact h8, by
              show dn ++ [_] = _
              rw [List.length_append, List.length_singleton, List.take_succ_eq_append_getElem hut, List.map_append, ← h9, hr]
              rfl, by rw [List.length_append, List.length_singleton]⟩
            have hixn : ixN (List.map lI (pre ++ [lead] ++ (dn ++ td))).length y = some (pre.length + 1 + us.length) := by
              rw [ixN_of (by omega) (by rw [List.length_map, List.length_append, List.length_append, List.length_append, List.length_singleton, htd, List.length_cons, List.length_drop]; omega), hy]
              congr 1
            have hcl := at_int (r := lead) (j := c) (by omega)
            have hcr := at_int (r := r) (j := c) (by omega)
            dsimp only at nx2
            subst_eqs
            refine ⟨_, hat, r.map .int, rfl, _, hcr, by unfold Rg; omega, ?_⟩
            rw [rngD_rgI0]
            refine lcW_map (α := Int) D.int (fun j => .int ((lead.getD c 0 * r.getD j.toNat 0 - r.getD c 0 * lead.getD j.toNat 0) % 97)) (rgI 0 width) 0 _ (le_size (by rw [rgI_len]; omega)) ?_ ?_
            · intro j hj K1 K2 h
              obtain ⟨hj0, hj1⟩ := mem_rgI.mp hj
              have ej : j = (j.toNat : Int) := by omega
              have a1 := at_int (r := r) (j := j.toNat) (by omega)
              have a2 := at_int (r := lead) (j := j.toNat) (by omega)
              rw [← ej] at a1 a2
              have b1 := res_get hlres c
              have b2 := res_get hrr c
              subst_eqs
              exact ⟨lead.map .int, rfl, _, hcl, _, hat, r.map .int, rfl, _, a1, _, rfl, _, rfl, .inl ⟨by omega, by omega⟩, lead.map .int, rfl, _, a2, _, rfl, .inl ⟨by omega, by omega⟩, by decide, h⟩
            · refine ⟨_, hixn, ?_⟩
              have er : D.lst ((rgI 0 width).map fun j => D.int ((lead.getD c 0 * r.getD j.toNat 0 - r.getD c 0 * lead.getD j.toNat 0) % 97)) = lI (elR width lead c r) := by
                unfold lI elR rgI
                rw [List.map_map, List.map_map, Int.sub_zero, Int.toNat_natCast]
                congr 1
                refine List.map_congr_left fun j _ => ?_
                show D.int ((_ * r.getD ((0 : Int) + (j : Nat)).toNat 0 - _ * lead.getD ((0 : Int) + (j : Nat)).toNat 0) % 97) = _
                rw [Int.zero_add, Int.toNat_natCast]
                rfl
              rw [er, hset]
              exact nx2
    · rintro us y vs ⟨at_, z7⟩ J2 ⟨h6, h7⟩ hJ2
      dsimp only at h7
      obtain ⟨hy, hyl⟩ := rgI_at h6
      have hut : us.length < act.length := by omega
      have hrow := List.getElem?_eq_getElem hut
      have hlen : (act[us.length]).length = width := h4 _ (List.getElem_mem _)
      have hat : atI ((pre ++ act).map lI) y = some (lI act[us.length]) := by
        rw [hy, ← Int.natCast_add, DL.atI_nat, List.getElem?_map, List.getElem?_append_right (by omega), show pre.length + us.length - pre.length = us.length by omega, hrow]
        rfl
      have hcol := at_int (r := act[us.length]) (j := c) (by omega)
      have htake : act.take (us.length + 1) = act.take us.length ++ [act[us.length]] := by rw [List.take_succ_eq_append_getElem hut]
      have hfat : fat (act.take (us.length + 1)) = if at_ < 0 then (if pr act[us.length] = true then y else -1) else at_ := by
        rw [htake]
        simp only [fat] at h7 ⊢
        rw [List.findIdx?_append]
        cases e : (act.take us.length).findIdx? pr with
        | some i =>
          rw [e] at h7
          simp only at h7
          rw [if_neg (by omega), h7]
          rfl
        | none =>
          rw [e] at h7
          simp only at h7
          rw [if_pos (by omega)]
          by_cases g : pr act[us.length] = true
          · rw [if_pos g]
            simp only [List.findIdx?_cons, g, List.findIdx?_nil, if_true, Option.map_some, Option.none_or, Nat.zero_add, List.length_take]
            omega
          · rw [if_neg g]
            simp only [List.findIdx?_cons, g, List.findIdx?_nil, Option.map_none, Option.none_or, Bool.false_eq_true, if_false]
      have nx2 := hJ2 (fat (act.take (us.length + 1)), .st (.int y)) ⟨by rw [List.append_assoc]; exact h6, by rw [List.length_append, List.length_singleton]⟩
      rw [hfat] at nx2
      subst_eqs
      have hneg : at_ < 0 → at_ = -1 := by
        intro hlt
        rw [h7] at hlt ⊢
        simp only [fat] at hlt ⊢
        split at hlt
        · rfl
        · omega
      by_cases g : at_ < 0
      · rw [if_pos g] at nx2 ⊢
        refine ⟨_, hat, act[us.length].map .int, rfl, _, hcol, .inl ⟨_, rfl, by decide, ?_⟩⟩
        by_cases g2 : act[us.length].getD c 0 % 97 = 0
        · rw [if_neg (by simpa using g2)]
          rw [if_neg (by simpa [pr] using g2), ← hneg g] at nx2
          exact nx2
        · rw [if_pos (by simpa using g2)]
          rw [if_pos (by simpa [pr] using g2)] at nx2
          exact nx2
      · rw [if_neg g] at nx2 ⊢
        exact nx2
end K87
end
section
set_option Elab.async false
set_option linter.all false
set_option maxRecDepth 100000
/-! K14: what the law keeps, how it contracts. -/
namespace K87
open PySem PySem.Spec PyProof.Rows L2 DL SN
variable {P : Program} {w : World} {K : PySem.W.Frag} {mg : Str → Option Value} {base : Heap} {CT CS CB : Addr}
local macro_rules | `(tactic| subst_eqs) => `(tactic| try simp only [wSeq, wNext, wFor, wRng1, wRng2, wRd, wSt, wC, gNm, gTp, gsNil, gsCons, wLc, wLc2, wSeqI, wPs, wYes, wIf, wIfS, wTru, wTest, wAnd, wOr, wNot, wAndV, wOrV, wNotV, wOp, wI0, wI, wIx, wUn, wNeg, wCatT, wCB, wCF, wOpF, wCatL, wRepL, wLen, wIntOf, wMM, wListOf, wTupOf, wSorted, wK, wCons, wNil, wPar, wNoPart, wPart, wEn, wEnN, wEnT, wZp, wInI, wIsN, wNotN, wDGet, wMeth, wMake, wFldC, wCon, wIsi,
  rdSl_st, rdSl_wk, rdSl_ow, rdSl_oT, stSl_st, stSl_wk, truD_bl, truD_int, truD_lst, truD_tup, truD_non, lenD_lst, lenD_tup, lenD_scr, walkD_lst, walkD_tup, seqD_lst, seqD_tup, seqD_scr, solid_int, solid_bl, solid_tup, solid_ins, solid_non, solid_str, isNon_non, isNon_lst, isNon_tup, isNon_int, isNon_bl, frz_ow0, frz_succ, frzS_st, frzS_wk, frzS_ow, frzS_oT, frzS_no,
  startD, startS, wipeD, List.set_cons_zero, List.set_cons_succ, List.getElem?_cons_zero, List.getElem?_cons_succ, List.length_cons, List.length_nil, List.cons_append, List.nil_append, List.map_cons, List.map_nil, List.replicate, Nat.reduceSub, Nat.reduceAdd, Option.some.injEq, Sl.st.injEq, Sl.wk.injEq, Sl.ow.injEq, Sl.oT.injEq, Sl.oI.injEq, D.int.injEq, D.lst.injEq, D.tup.injEq, D.bl.injEq, D.dT.injEq, D.ins.injEq, List.cons.injEq, exists_eq_left, exists_eq_left', exists_eq_right, exists_eq_right', exists_and_left, exists_and_right, and_assoc, decide_eq_true_eq, and_true, true_and, and_self, reduceIte, ite_true, ite_false, Bool.false_eq_true, reduceCtorEq, exists_false, false_and, and_false, exists_const, forall_const])

def lkS (rows : List Rw) (columns : Nat) (s : List Item × List Rw) (i : Item) : List Item × List Rw :=
  if s.2.length < (lmM rows i.2 columns).length ∧ (elF (lmM rows i.2 columns).length (s.2 ++ [lmM rows i.2 columns])).isEmpty = true then (s.1 ++ [i], s.2 ++ [lmM rows i.2 columns]) else s
def lkM (rows : List Rw) (columns : Nat) (order : List Item) : List Item := (order.foldl (lkS rows columns) ([], [])).1
theorem lmM_len (rows : List Rw) (lot : List Int) (columns : Nat) : (lmM rows lot columns).length = (chs columns lot.length).length := by unfold lmM; rw [List.length_map]
theorem lmM_res (rows : List Rw) (lot : List Int) (columns : Nat) : Res (lmM rows lot columns) := by
  intro a ha
  obtain ⟨c, _, rfl⟩ := List.mem_map.mp ha
  exact detN_res _ _
def g_lkept : GD := fun ds Q => ∃ (rows : List Rw) (columns size : Nat) (order : List Item), ds = [rwsD rows, .int columns, .lst (order.map itD)] ∧ TabOk rows columns ∧ size ≤ 6 ∧ order.length ≤ 100 ∧ (∀ i ∈ order, i.2.length = size ∧ ∀ x ∈ i.2, 0 ≤ x ∧ x < rows.length) ∧
  Q (.lst ((lkM rows columns order).map itD))
theorem sc__law_kept : FnScope ["rows", "columns", "order", "found", "basis", "item", "row"] ["rows", "columns", "order"] (defScope (top 48)) := ⟨rfl, rfl, rfl, by decide +kernel, rfl, by decide +kernel, by decide +kernel⟩
theorem u__law_kept (T : Txt K mg CT CS CB) : Use P w K mg base "_law_kept" 11 [false, false, false] g_lkept := by
  have S := sc__law_kept
  refine T.f__law_kept.use (k := 10) S rfl fun f cdv A outer s H E hr => ⟨_, _, (dss_cons (ds_own (i := 3) S.nd (df_lst da_nil))
      (dss_cons (ds_own (i := 4) S.nd (df_lst da_nil))
      (dss_cons (ds_for PassesOwn.never rfl (dip_nmK (K := K) 2) (dg_name (i := 5) S.nd) (dss_cons (ds_set (i := 6) S.nd (Use.deK (K := K) (u__law_minors T) hr (da_wk (dr 0) (da_wk (DE.w (de_ixK (K := K) (dr 5) (DE.w de_int))) (da_wk (dr 1) da_nil)))))
      (dss_one (ds_if (DTW.t (dw_and (dt_cmp op_lt lo_B0 (DE.w (de_callB (call_lenK (K := K)) lc_len rfl T.b_len (da_wk (dr 4) da_nil))) (DE.w (de_callB (call_lenK (K := K)) lc_len rfl T.b_len (da_wk (dr 6) da_nil))) (nomark _)) (dw_and1 (dt_val (Use.deK (K := K) (u__law_free T) hr (da_wk (DF.w (df_op op_cat lo_catL (dr 4) (DF.w (df_lst (da_st (dv 6) da_nil))))) (da_wk (DE.w (de_callB (call_lenK (K := K)) lc_len rfl T.b_len (da_wk (dr 6) da_nil))) da_nil))))))) (dss_cons (ds_app (i := 4) (dv 6))
      (dss_one (ds_app (i := 3) (dv 5)))) dss_nil))))
      (dss_frz 3 (dss_one (ds_ret (dv 3))))))), fun ds Q hl hg => ?_⟩
  obtain ⟨rows, columns, size, order, rfl, ht, hsz, hol, hit, q⟩ := hg
  have htc := ht.c
  subst_eqs
  intro a b
  refine forW_inv2 (α := Item) (S := (List Item × List Rw) × Sl × Sl) itD (fun s => [.wk (rwsD rows), .wk (.int columns), .wk (.lst (order.map itD)), .ow a (s.1.1.map itD), .ow b (s.1.2.map lI), s.2.1, s.2.2])
    (fun ys xs s => ys ++ xs = order ∧ s.1 = ys.foldl (lkS rows columns) ([], []) ∧ s.1.1.length ≤ ys.length ∧ s.1.2.length ≤ ys.length ∧ ∀ r ∈ s.1.2, r.length = (chs columns size).length ∧ Res r) ?_ ?_ order [] (([], []), .no, .no) ⟨rfl, rfl, Nat.le_refl _, Nat.le_refl _, fun r h => nomatch h⟩
  · rintro ys ⟨⟨fo, ba⟩, z1, z2⟩ ⟨h1, h2, h3, h4, h5⟩
    rw [List.append_nil] at h1
    subst_eqs
    have e : lkM rows columns order = fo := by
      unfold lkM
      rw [← h1]
      exact (congrArg Prod.fst h2).symm
    rw [e] at q
    exact q
  · rintro ys x xs ⟨⟨fo, ba⟩, z1, z2⟩ J ⟨h1, h2, h3, h4, h5⟩ hJ
    dsimp only at h2 h3 h4 h5
    have hxm : x ∈ order := h1 ▸ List.mem_append_right _ List.mem_cons_self
    obtain ⟨hxs, hxr⟩ := hit x hxm
    have hyl : ys.length < 100 := by
      have := congrArg List.length h1
      rw [List.length_append, List.length_cons] at this
      omega
    have hll := lmM_len rows x.2 columns
    rw [hxs] at hll
    have hc20 := chs_few columns (by omega) size (by omega)
    have hst : (ys ++ [x]).foldl (lkS rows columns) ([], []) = lkS rows columns (fo, ba) x := by rw [List.foldl_append, ← h2]; rfl
    have yes : (ba.length < (lmM rows x.2 columns).length ∧ (elF (lmM rows x.2 columns).length (ba ++ [lmM rows x.2 columns])).isEmpty = true) →
        J [.wk (rwsD rows), .wk (.int columns), .wk (.lst (order.map itD)), .ow a (fo.map itD ++ [itD x]), .ow b (ba.map lI ++ [lI (lmM rows x.2 columns)]), .st (itD x), .st (lI (lmM rows x.2 columns))] := by
      intro hc
      have := hJ ((fo ++ [x], ba ++ [lmM rows x.2 columns]), .st (itD x), .st (lI (lmM rows x.2 columns))) ⟨by rw [List.append_assoc]; exact h1, ?_, ?_, ?_, ?_⟩
      · simp only [List.map_append, List.map_cons, List.map_nil] at this
        exact this
      · rw [hst]; unfold lkS; rw [if_pos hc]
      · rw [List.length_append, List.length_append]; show _ + 1 ≤ _ + 1; omega
      · rw [List.length_append, List.length_append]; show _ + 1 ≤ _ + 1; omega
      · intro r hr
        rcases List.mem_append.mp hr with h | h
        · exact h5 r h
        · rw [List.mem_singleton.mp h]
          exact ⟨hll, lmM_res _ _ _⟩
    have no : ¬ (ba.length < (lmM rows x.2 columns).length ∧ (elF (lmM rows x.2 columns).length (ba ++ [lmM rows x.2 columns])).isEmpty = true) →
        J [.wk (rwsD rows), .wk (.int columns), .wk (.lst (order.map itD)), .ow a (fo.map itD), .ow b (ba.map lI), .st (itD x), .st (lI (lmM rows x.2 columns))] := by
      intro hc
      refine hJ ((fo, ba), .st (itD x), .st (lI (lmM rows x.2 columns))) ⟨by rw [List.append_assoc]; exact h1, ?_, ?_, ?_, h5⟩
      · rw [hst]; unfold lkS; rw [if_neg hc]
      · rw [List.length_append]; show fo.length ≤ _; omega
      · rw [List.length_append]; show ba.length ≤ _; omega
    have hrow : ∀ r ∈ ba ++ [lmM rows x.2 columns], r.length = (lmM rows x.2 columns).length ∧ Res r := by
      intro r hr
      rcases List.mem_append.mp hr with h | h
      · rw [hll]; exact h5 r h
      · rw [List.mem_singleton.mp h]
        exact ⟨rfl, lmM_res _ _ _⟩
    generalize hmr : lmM rows x.2 columns = mr at *
    rw [show itD x = D.tup [D.int x.1, tI x.2] from rfl] at *
    subst_eqs
    rw [itD_1]
    refine ⟨_, rfl, rows, x.2, columns, rfl, by omega, by omega, ht.l, ht.m, hxr, ?_⟩
    rw [hmr]
    unfold lI at *
    subst_eqs
    simp only [List.length_map]
    by_cases c1 : ba.length < mr.length
    · rw [if_pos (by omega)]
      refine ⟨le_size (by omega), mr.length, ba ++ [mr], by unfold rwsD lI; rw [List.map_append]; rfl, by omega, by rw [List.length_append, List.length_singleton]; omega, fun r hr => (hrow r hr).1, fun r hr => (hrow r hr).2, _, rfl, ?_⟩
      by_cases c2 : (elF mr.length (ba ++ [mr])).isEmpty = true
      · rw [if_pos c2]
        exact ⟨lt_size (by omega), lt_size (by omega), yes ⟨c1, c2⟩⟩
      · rw [if_neg c2]
        exact no fun z => c2 z.2
    · rw [if_neg (by omega)]
      exact no fun z => c1 z.1
theorem getq {r : Rw} {i : Nat} (h : i < r.length) : r[i]? = some (r.getD i 0) := by
  rw [List.getD_eq_getElem?_getD, List.getElem?_eq_getElem h]
  rfl
theorem clr_eq {m c : Nat} {rest b2 : Rw} (h1 : rest.length = m) (h2 : b2.length = m) (hr : Res rest) : clr rest (c, b2) = (rgI 0 m).map fun j => (rest.getD j.toNat 0 - rest.getD c 0 * b2.getD j.toNat 0) % 97 := by
  apply List.ext_getElem?
  intro i
  have hres := res_get hr i
  unfold rgI
  rw [List.map_map, List.getElem?_map, Int.sub_zero, Int.toNat_natCast]
  by_cases hi : i < m
  · rw [List.getElem?_range hi]
    show (clr rest (c, b2))[i]? = some ((rest.getD ((0 : Int) + (i : Nat)).toNat 0 - rest.getD c 0 * b2.getD ((0 : Int) + (i : Nat)).toNat 0) % 97)
    rw [Int.zero_add, Int.toNat_natCast]
    unfold clr
    by_cases h : rest.getD (c : Int).toNat 0 ≠ 0
    · have hz : (rest.zip b2)[i]? = some (rest.getD i 0, b2.getD i 0) := List.getElem?_zip_eq_some.mpr ⟨getq (by omega), getq (by omega)⟩
      rw [if_pos h, List.getElem?_map, hz]
      rfl
    · rw [if_neg h]
      have h0 : rest.getD c 0 = 0 := Classical.byContradiction fun z => h z
      rw [h0, Int.zero_mul, Int.sub_zero, getq (by omega), Int.emod_eq_of_lt hres.1 hres.2]
  · rw [List.getElem?_eq_none (by rw [clr_len h1 h2]; omega), List.getElem?_eq_none (by rw [List.length_range]; omega)]
    rfl
theorem at_rg {r : Rw} {m : Nat} {j : Int} (h : r.length = m) (hj : j ∈ rgI 0 m) : atI (r.map D.int) j = some (.int (r.getD j.toNat 0)) := by
  obtain ⟨h0, h1⟩ := mem_rgI.mp hj
  have e : j = (j.toNat : Int) := by omega
  have := at_int (r := r) (j := j.toNat) (by omega)
  rwa [← e] at this
theorem redM_res {row : Rw} {B : Bas} (h : Res row) : redM row B = B.foldl clr row := by
  unfold redM
  rw [show row.map (· % 97) = modR row from rfl, modR_res h]
theorem not_mem_dec {c : Int} {l : List Int} : (!decide (c ∈ l)) = decide (c ∉ l) := by
  by_cases h : c ∈ l <;> simp [h]
end K87
end
section
set_option Elab.async false
set_option linter.all false
set_option maxRecDepth 100000
set_option maxHeartbeats 4000000
/-! K15: same. -/
namespace K87
open PySem PySem.Spec PyProof.Rows L2 DL SN
variable {P : Program} {w : World} {K : PySem.W.Frag} {mg : Str → Option Value} {base : Heap} {CT CS CB : Addr}
local macro_rules | `(tactic| subst_eqs) => `(tactic| try simp only [wSeq, wNext, wFor, wRng1, wRng2, wRd, wSt, wC, gNm, gTp, gsNil, gsCons, wLc, wLc2, wSeqI, wPs, wYes, wIf, wIfS, wTru, wTest, wAnd, wOr, wNot, wAndV, wOrV, wNotV, wOp, wI0, wI, wIx, wUn, wNeg, wCatT, wCB, wCF, wOpF, wCatL, wRepL, wLen, wIntOf, wMM, wListOf, wTupOf, wSorted, wK, wCons, wNil, wPar, wNoPart, wPart, wEn, wEnN, wEnT, wZp, wInI, wIsN, wNotN, wDGet, wMeth, wMake, wFldC, wCon, wIsi,
  rdSl_st, rdSl_wk, rdSl_ow, rdSl_oT, stSl_st, stSl_wk, truD_bl, truD_int, truD_lst, truD_tup, truD_non, lenD_lst, lenD_tup, lenD_scr, walkD_lst, walkD_tup, seqD_lst, seqD_tup, seqD_scr, solid_int, solid_bl, solid_tup, solid_ins, solid_non, solid_str, isNon_non, isNon_lst, isNon_tup, isNon_int, isNon_bl, frz_ow0, frz_succ, frzS_st, frzS_wk, frzS_ow, frzS_oT, frzS_no,
  startD, startS, wipeD, List.set_cons_zero, List.set_cons_succ, List.getElem?_cons_zero, List.getElem?_cons_succ, List.length_cons, List.length_nil, List.cons_append, List.nil_append, List.map_cons, List.map_nil, List.replicate, Nat.reduceSub, Nat.reduceAdd, Option.some.injEq, Sl.st.injEq, Sl.wk.injEq, Sl.ow.injEq, Sl.oT.injEq, Sl.oI.injEq, D.int.injEq, D.lst.injEq, D.tup.injEq, D.bl.injEq, D.dT.injEq, D.ins.injEq, List.cons.injEq, exists_eq_left, exists_eq_left', exists_eq_right, exists_eq_right', exists_and_left, exists_and_right, and_assoc, decide_eq_true_eq, and_true, true_and, and_self, reduceIte, ite_true, ite_false, Bool.false_eq_true, reduceCtorEq, exists_false, false_and, and_false, exists_const, forall_const])

theorem kb_NoneType_bool : kitB "NoneType" "bool" = some false := by decide +kernel
theorem kb_NoneType_int : kitB "NoneType" "int" = some false := by decide +kernel
theorem kb_NoneType_str : kitB "NoneType" "str" = some false := by decide +kernel
theorem kb_NoneType_tuple : kitB "NoneType" "tuple" = some false := by decide +kernel
theorem kb_NoneType_list : kitB "NoneType" "list" = some false := by decide +kernel
theorem kb_bool_bool : kitB "bool" "bool" = some true := by decide +kernel
theorem kb_bool_int : kitB "bool" "int" = some true := by decide +kernel
theorem kb_bool_str : kitB "bool" "str" = some false := by decide +kernel
theorem kb_bool_tuple : kitB "bool" "tuple" = some false := by decide +kernel
theorem kb_bool_list : kitB "bool" "list" = some false := by decide +kernel
theorem kb_int_bool : kitB "int" "bool" = some false := by decide +kernel
theorem kb_int_int : kitB "int" "int" = some true := by decide +kernel
theorem kb_int_str : kitB "int" "str" = some false := by decide +kernel
theorem kb_int_tuple : kitB "int" "tuple" = some false := by decide +kernel
theorem kb_int_list : kitB "int" "list" = some false := by decide +kernel
theorem kb_str_bool : kitB "str" "bool" = some false := by decide +kernel
theorem kb_str_int : kitB "str" "int" = some false := by decide +kernel
theorem kb_str_str : kitB "str" "str" = some true := by decide +kernel
theorem kb_str_tuple : kitB "str" "tuple" = some false := by decide +kernel
theorem kb_str_list : kitB "str" "list" = some false := by decide +kernel
theorem kb_list_bool : kitB "list" "bool" = some false := by decide +kernel
theorem kb_list_int : kitB "list" "int" = some false := by decide +kernel
theorem kb_list_str : kitB "list" "str" = some false := by decide +kernel
theorem kb_list_tuple : kitB "list" "tuple" = some false := by decide +kernel
theorem kb_list_list : kitB "list" "list" = some true := by decide +kernel
theorem kb_tuple_bool : kitB "tuple" "bool" = some false := by decide +kernel
theorem kb_tuple_int : kitB "tuple" "int" = some false := by decide +kernel
theorem kb_tuple_str : kitB "tuple" "str" = some false := by decide +kernel
theorem kb_tuple_tuple : kitB "tuple" "tuple" = some true := by decide +kernel
theorem kb_tuple_list : kitB "tuple" "list" = some false := by decide +kernel
theorem ty_int (i : Int) : tyD (.int i) = some "int" := rfl
theorem ty_lst (ds : List D) : tyD (.lst ds) = some "list" := rfl
theorem ty_tup (ds : List D) : tyD (.tup ds) = some "tuple" := rfl
theorem ty_non : tyD .non = some "NoneType" := rfl
theorem ty_bl (b : Bool) : tyD (.bl b) = some "bool" := rfl
theorem ty_str (x : Str) : tyD (.str x) = some "str" := rfl
theorem isNon_str (x : Str) : DL.isNon (.str x) = false := rfl
/-- None, bools, ints, texts, lists and tuples of such, less deep than n -/
def plN : Nat → D → Prop
  | 0, _ => False
  | n + 1, d => (∃ i, d = .int i) ∨ (∃ ds, d = .lst ds ∧ ds.length ≤ 100000 ∧ ∀ e ∈ ds, plN n e) ∨ (∃ ds, d = .tup ds ∧ ds.length ≤ 100000 ∧ ∀ e ∈ ds, plN n e) ∨ d = .non ∨ (∃ b, d = .bl b) ∨ ∃ x : Str, d = .str x ∧ SeqAt.shaped (.str x) = true
theorem plN.int {n : Nat} (i : Int) : plN (n + 1) (.int i) := .inl ⟨i, rfl⟩
theorem plN.lst {n : Nat} {ds : List D} (h : ds.length ≤ 100000) (h2 : ∀ e ∈ ds, plN n e) : plN (n + 1) (.lst ds) := .inr (.inl ⟨ds, rfl, h, h2⟩)
theorem plN.tup {n : Nat} {ds : List D} (h : ds.length ≤ 100000) (h2 : ∀ e ∈ ds, plN n e) : plN (n + 1) (.tup ds) := .inr (.inr (.inl ⟨ds, rfl, h, h2⟩))
theorem plN.non {n : Nat} : plN (n + 1) .non := .inr (.inr (.inr (.inl rfl)))
theorem plN.bl {n : Nat} (b : Bool) : plN (n + 1) (.bl b) := .inr (.inr (.inr (.inr (.inl ⟨b, rfl⟩))))
theorem plN.mono : ∀ {n : Nat} {d : D}, plN n d → plN (n + 1) d
  | n + 1, d, h => by
    rcases h with ⟨i, h⟩ | ⟨ds, h, hl, he⟩ | ⟨ds, h, hl, he⟩ | h
    · exact .inl ⟨i, h⟩
    · exact .inr (.inl ⟨ds, h, hl, fun e hm => plN.mono (he e hm)⟩)
    · exact .inr (.inr (.inl ⟨ds, h, hl, fun e hm => plN.mono (he e hm)⟩))
    · exact .inr (.inr (.inr h))
def g_same (n : Nat) : GD := fun ds Q => ∃ told due : D, ds = [told, due] ∧ plN n told ∧ plN n due ∧ ∀ b : Bool, (b = true ↔ told = due) → Q (.bl b)
theorem sc__law_same : FnScope ["told", "due", "k"] ["told", "due"] (defScope (top 44)) := ⟨rfl, rfl, rfl, by decide +kernel, rfl, by decide +kernel, by decide +kernel⟩
theorem s__law_same (T : Txt K mg CT CS CB) {k n : Nat} (ih : Use P w K mg base "_law_same" k [false, false] (g_same n)) : Use P w K mg base "_law_same" (k + 1) [false, false] (g_same (n + 1)) := by
  have S := sc__law_same
  refine T.f__law_same.use (k := k) S rfl fun f cdv A outer s H E hr => ⟨_, _, (dss_cons (ds_if (dt_cmp op_isN lo_isN (dr 1) (DE.w de_non) (nomark _)) (dss_one (ds_ret (de_cmp op_isN lo_isN (dr 0) (DE.w de_non) (nomark _)))) dss_nil)
      (dss_cons (ds_if (dt_val (de_isiK (K := K) rfl T.b_isinstance rfl T.b_bool (dr 1))) (dss_one (ds_ret (de_and (de_isiK (K := K) rfl T.b_isinstance rfl T.b_bool (dr 0)) (de_one (de_cmp (op_eqDK (K := K) hr.units) lo_eqD (dr 0) (dr 1) (nomark _)))))) dss_nil)
      (dss_cons (ds_if (dt_val (de_isiK (K := K) rfl T.b_isinstance rfl T.b_int (dr 1))) (dss_one (ds_ret (de_and (de_isiK (K := K) rfl T.b_isinstance rfl T.b_int (dr 0)) (de_and (de_not (de_isiK (K := K) rfl T.b_isinstance rfl T.b_bool (dr 0))) (de_one (de_cmp (op_eqDK (K := K) hr.units) lo_eqD (dr 0) (dr 1) (nomark _))))))) dss_nil)
      (dss_cons (ds_if (dt_val (de_isiK (K := K) rfl T.b_isinstance rfl T.b_str (dr 1))) (dss_one (ds_ret (de_and (de_isiK (K := K) rfl T.b_isinstance rfl T.b_str (dr 0)) (de_one (de_cmp (op_eqDK (K := K) hr.units) lo_eqD (dr 0) (dr 1) (nomark _)))))) dss_nil)
      (dss_cons (ds_if (DTW.t (dw_and (dt_val (de_isiK (K := K) rfl T.b_isinstance rfl T.b_tuple (dr 1))) (dw_and1 (dt_not (dt_val (de_isiK (K := K) rfl T.b_isinstance rfl T.b_tuple (dr 0))))))) (dss_one (ds_ret de_bl)) dss_nil)
      (dss_cons (ds_if (DTW.t (dw_and (dt_val (de_isiK (K := K) rfl T.b_isinstance rfl T.b_list (dr 1))) (dw_and1 (dt_not (dt_val (de_isiK (K := K) rfl T.b_isinstance rfl T.b_list (dr 0))))))) (dss_one (ds_ret de_bl)) dss_nil)
      (dss_cons (ds_if (dt_cmp op_ne lo_neI (DE.w (de_callB (call_lenK (K := K)) lc_len rfl T.b_len (da_wk (dr 0) da_nil))) (DE.w (de_callB (call_lenK (K := K)) lc_len rfl T.b_len (da_wk (dr 1) da_nil))) (nomark _)) (dss_one (ds_ret de_bl)) dss_nil)
      (dss_cons (ds_for PassesOwn.never rfl (di_rng1 rfl T.b_range (da_wk (DE.w (de_callB (call_lenK (K := K)) lc_len rfl T.b_len (da_wk (dr 1) da_nil))) da_nil)) (dg_name (i := 2) S.nd) (dss_one (ds_if (dt_not (dt_val (Use.deK (K := K) (hk := Nat.le_refl _) ih hr (da_wk (DE.w (de_ixK (K := K) (dr 0) (dr 2))) (da_wk (DE.w (de_ixK (K := K) (dr 1) (dr 2))) da_nil))))) (dss_one (ds_ret de_bl)) dss_nil)))
      (dss_one (ds_ret de_bl)))))))))), fun ds Q hl hg => ?_⟩
  obtain ⟨told, due, rfl, ht, hd, q⟩ := hg
  rcases hd with ⟨j, rfl⟩ | ⟨es, rfl, hel, hee⟩ | ⟨es, rfl, hel, hee⟩ | rfl | ⟨c2, rfl⟩ | ⟨y, rfl, hy⟩ <;> rcases ht with ⟨i, rfl⟩ | ⟨ds, rfl, hdl, hde⟩ | ⟨ds, rfl, hdl, hde⟩ | rfl | ⟨c1, rfl⟩ | ⟨x, rfl, hx⟩
  all_goals subst_eqs
  all_goals try simp only [isNon_str, kb_NoneType_bool, kb_NoneType_int, kb_NoneType_str, kb_NoneType_tuple, kb_NoneType_list, kb_bool_bool, kb_bool_int, kb_bool_str, kb_bool_tuple, kb_bool_list, kb_int_bool, kb_int_int, kb_int_str, kb_int_tuple, kb_int_list, kb_str_bool, kb_str_int, kb_str_str, kb_str_tuple, kb_str_list, kb_list_bool, kb_list_int, kb_list_str, kb_list_tuple, kb_list_list, kb_tuple_bool, kb_tuple_int, kb_tuple_str, kb_tuple_tuple, kb_tuple_list, ty_int, ty_lst, ty_tup, ty_non, ty_bl, ty_str, Option.some.injEq, exists_eq_left', Bool.false_eq_true, Bool.not_false, Bool.not_true, ite_true, ite_false, if_true, if_false, lenD_lst, lenD_tup]
  · refine ⟨.int i, .int j, by rw [toPy], by rw [toPy], rfl, rfl, ?_⟩
    refine q _ ?_
    simp only [PyData.eqv]
    exact ⟨fun h => by rw [of_decide_eq_true h], fun h => decide_eq_true (D.int.inj h)⟩
  · exact q _ ⟨fun h => (Bool.false_ne_true h).elim, fun h => nomatch h⟩
  · exact q _ ⟨fun h => (Bool.false_ne_true h).elim, fun h => nomatch h⟩
  · exact q _ ⟨fun h => (Bool.false_ne_true h).elim, fun h => nomatch h⟩
  · exact q _ ⟨fun h => (Bool.false_ne_true h).elim, fun h => nomatch h⟩
  · exact q _ ⟨fun h => (Bool.false_ne_true h).elim, fun h => nomatch h⟩
  · exact q _ ⟨fun h => (Bool.false_ne_true h).elim, fun h => nomatch h⟩
  · by_cases c : ds.length = es.length
    · rw [if_neg (by simp [c])]
      refine ⟨by unfold Rg; omega, ?_⟩
      rw [rngD_rgI0]
      refine forW_inv2 (α := Int) (S := Sl) D.int (fun s => [.wk (.lst ds), .wk (.lst es), s]) (fun ys xs _ => ys ++ xs = rgI 0 es.length ∧ ∀ k < ys.length, ds[k]? = es[k]?) ?_ ?_ (rgI 0 es.length) [] .no ⟨rfl, fun k h => absurd h (Nat.not_lt_zero _)⟩
      · rintro ys z ⟨h1, h2⟩
        rw [List.append_nil] at h1
        have hy : ys.length = es.length := by rw [h1, rgI_len]; omega
        refine q true ⟨fun _ => congrArg D.lst (List.ext_getElem? fun k => ?_), fun _ => rfl⟩
        by_cases hk : k < es.length
        · exact h2 k (by omega)
        · rw [List.getElem?_eq_none (by omega), List.getElem?_eq_none (by omega)]
      · rintro ys x xs z J ⟨h1, h2⟩ hJ
        obtain ⟨hx, hxl⟩ := rgI_at h1
        rw [Int.zero_add] at hx
        generalize hk : ys.length = k at *
        subst hx
        have e1 : atI ds (k : Int) = some ds[k] := by rw [DL.atI_nat, List.getElem?_eq_getElem (by omega)]
        have e2 : atI es (k : Int) = some es[k] := by rw [DL.atI_nat, List.getElem?_eq_getElem (by omega)]
        subst_eqs
        refine ⟨_, e1, _, e2, _, _, rfl, hde _ (List.getElem_mem _), hee _ (List.getElem_mem _), fun b hb => ?_⟩
        subst_eqs
        cases b with
        | true =>
          refine hJ _ ⟨by rw [List.append_assoc]; exact h1, fun j hj => ?_⟩
          rw [List.length_append, List.length_singleton] at hj
          by_cases hjk : j = k
          · subst hjk
            rw [List.getElem?_eq_getElem (by omega), List.getElem?_eq_getElem (by omega), hb.mp rfl]
          · exact h2 j (by omega)
        | false =>
          refine q false ⟨fun h => (Bool.false_ne_true h).elim, fun h => ?_⟩
          refine absurd (hb.mpr ?_) Bool.false_ne_true
          have := D.lst.inj h
          subst this
          rfl
    · rw [if_pos (by simp; omega)]
      exact q _ ⟨fun h => (Bool.false_ne_true h).elim, fun h => absurd (congrArg List.length (D.lst.inj h)) c⟩
  · exact q _ ⟨fun h => (Bool.false_ne_true h).elim, fun h => nomatch h⟩
  · exact q _ ⟨fun h => (Bool.false_ne_true h).elim, fun h => nomatch h⟩
  · exact q _ ⟨fun h => (Bool.false_ne_true h).elim, fun h => nomatch h⟩
  · exact q _ ⟨fun h => (Bool.false_ne_true h).elim, fun h => nomatch h⟩
  · exact q _ ⟨fun h => (Bool.false_ne_true h).elim, fun h => nomatch h⟩
  · exact q _ ⟨fun h => (Bool.false_ne_true h).elim, fun h => nomatch h⟩
  · by_cases c : ds.length = es.length
    · rw [if_neg (by simp [c])]
      refine ⟨by unfold Rg; omega, ?_⟩
      rw [rngD_rgI0]
      refine forW_inv2 (α := Int) (S := Sl) D.int (fun s => [.wk (.tup ds), .wk (.tup es), s]) (fun ys xs _ => ys ++ xs = rgI 0 es.length ∧ ∀ k < ys.length, ds[k]? = es[k]?) ?_ ?_ (rgI 0 es.length) [] .no ⟨rfl, fun k h => absurd h (Nat.not_lt_zero _)⟩
      · rintro ys z ⟨h1, h2⟩
        rw [List.append_nil] at h1
        have hy : ys.length = es.length := by rw [h1, rgI_len]; omega
        refine q true ⟨fun _ => congrArg D.tup (List.ext_getElem? fun k => ?_), fun _ => rfl⟩
        by_cases hk : k < es.length
        · exact h2 k (by omega)
        · rw [List.getElem?_eq_none (by omega), List.getElem?_eq_none (by omega)]
      · rintro ys x xs z J ⟨h1, h2⟩ hJ
        obtain ⟨hx, hxl⟩ := rgI_at h1
        rw [Int.zero_add] at hx
        generalize hk : ys.length = k at *
        subst hx
        have e1 : atI ds (k : Int) = some ds[k] := by rw [DL.atI_nat, List.getElem?_eq_getElem (by omega)]
        have e2 : atI es (k : Int) = some es[k] := by rw [DL.atI_nat, List.getElem?_eq_getElem (by omega)]
        subst_eqs
        refine ⟨_, e1, _, e2, _, _, rfl, hde _ (List.getElem_mem _), hee _ (List.getElem_mem _), fun b hb => ?_⟩
        subst_eqs
        cases b with
        | true =>
          refine hJ _ ⟨by rw [List.append_assoc]; exact h1, fun j hj => ?_⟩
          rw [List.length_append, List.length_singleton] at hj
          by_cases hjk : j = k
          · subst hjk
            rw [List.getElem?_eq_getElem (by omega), List.getElem?_eq_getElem (by omega), hb.mp rfl]
          · exact h2 j (by omega)
        | false =>
          refine q false ⟨fun h => (Bool.false_ne_true h).elim, fun h => ?_⟩
          refine absurd (hb.mpr ?_) Bool.false_ne_true
          have := D.tup.inj h
          subst this
          rfl
    · rw [if_pos (by simp; omega)]
      exact q _ ⟨fun h => (Bool.false_ne_true h).elim, fun h => absurd (congrArg List.length (D.tup.inj h)) c⟩
  · exact q _ ⟨fun h => (Bool.false_ne_true h).elim, fun h => nomatch h⟩
  · exact q _ ⟨fun h => (Bool.false_ne_true h).elim, fun h => nomatch h⟩
  · exact q _ ⟨fun h => (Bool.false_ne_true h).elim, fun h => nomatch h⟩
  · exact q _ ⟨fun h => (Bool.false_ne_true h).elim, fun h => nomatch h⟩
  · exact q _ ⟨fun h => (Bool.false_ne_true h).elim, fun h => nomatch h⟩
  · exact q _ ⟨fun h => (Bool.false_ne_true h).elim, fun h => nomatch h⟩
  · exact q _ ⟨fun _ => rfl, fun _ => rfl⟩
  · exact q _ ⟨fun h => (Bool.false_ne_true h).elim, fun h => nomatch h⟩
  · exact q _ ⟨fun h => (Bool.false_ne_true h).elim, fun h => nomatch h⟩
  · exact q _ ⟨fun h => (Bool.false_ne_true h).elim, fun h => nomatch h⟩
  · exact q _ ⟨fun h => (Bool.false_ne_true h).elim, fun h => nomatch h⟩
  · exact q _ ⟨fun h => (Bool.false_ne_true h).elim, fun h => nomatch h⟩
  · exact q _ ⟨fun h => (Bool.false_ne_true h).elim, fun h => nomatch h⟩
  · refine ⟨.bool c1, .bool c2, by rw [toPy], by rw [toPy], by cases c1 <;> rfl, by cases c2 <;> rfl, ?_⟩
    refine q _ ?_
    simp only [PyData.eqv]
    cases c1 <;> cases c2 <;> simp
  · exact q _ ⟨fun h => (Bool.false_ne_true h).elim, fun h => nomatch h⟩
  · exact q _ ⟨fun h => (Bool.false_ne_true h).elim, fun h => nomatch h⟩
  · exact q _ ⟨fun h => (Bool.false_ne_true h).elim, fun h => nomatch h⟩
  · exact q _ ⟨fun h => (Bool.false_ne_true h).elim, fun h => nomatch h⟩
  · exact q _ ⟨fun h => (Bool.false_ne_true h).elim, fun h => nomatch h⟩
  · exact q _ ⟨fun h => (Bool.false_ne_true h).elim, fun h => nomatch h⟩
  · refine ⟨.str x, .str y, by rw [toPy], by rw [toPy], hx, hy, ?_⟩
    refine q _ ?_
    simp only [PyData.eqv]
    rw [beq_iff_eq]
    exact ⟨fun h => by rw [h], fun h => D.str.inj h⟩
theorem u__law_same (T : Txt K mg CT CS CB) : ∀ n : Nat, Use P w K mg base "_law_same" n [false, false] (g_same n)
  | 0 => use_none T.f__law_same rfl fun ds Q ⟨_, _, _, h, _⟩ => h
  | n + 1 => s__law_same T (u__law_same T n)
end K87
end
section
set_option Elab.async false
set_option linter.all false
set_option maxRecDepth 100000
set_option maxHeartbeats 4000000
/-! K17: same, where an exception is handled. -/
namespace K87
open PySem PySem.Spec PyProof.Rows L2 DL SN
variable {P : Program} {w : World} {K : PySem.W.Frag} {mg : Str → Option Value} {base : Heap} {CT CS CB : Addr}
local macro_rules | `(tactic| subst_eqs) => `(tactic| try simp only [wSeq, wNext, wFor, wRng1, wRng2, wRd, wSt, wC, gNm, gTp, gsNil, gsCons, wLc, wLc2, wSeqI, wPs, wYes, wIf, wIfS, wTru, wTest, wAnd, wOr, wNot, wAndV, wOrV, wNotV, wOp, wI0, wI, wIx, wUn, wNeg, wCatT, wCB, wCF, wOpF, wCatL, wRepL, wLen, wIntOf, wMM, wListOf, wTupOf, wSorted, wK, wCons, wNil, wPar, wNoPart, wPart, wEn, wEnN, wEnT, wZp, wInI, wIsN, wNotN, wDGet, wMeth, wMake, wFldC, wCon, wIsi,
  rdSl_st, rdSl_wk, rdSl_ow, rdSl_oT, stSl_st, stSl_wk, truD_bl, truD_int, truD_lst, truD_tup, truD_non, lenD_lst, lenD_tup, lenD_scr, walkD_lst, walkD_tup, seqD_lst, seqD_tup, seqD_scr, solid_int, solid_bl, solid_tup, solid_ins, solid_non, solid_str, isNon_non, isNon_lst, isNon_tup, isNon_int, isNon_bl, frz_ow0, frz_succ, frzS_st, frzS_wk, frzS_ow, frzS_oT, frzS_no,
  startD, startS, wipeD, List.set_cons_zero, List.set_cons_succ, List.getElem?_cons_zero, List.getElem?_cons_succ, List.length_cons, List.length_nil, List.cons_append, List.nil_append, List.map_cons, List.map_nil, List.replicate, Nat.reduceSub, Nat.reduceAdd, Option.some.injEq, Sl.st.injEq, Sl.wk.injEq, Sl.ow.injEq, Sl.oT.injEq, Sl.oI.injEq, D.int.injEq, D.lst.injEq, D.tup.injEq, D.bl.injEq, D.dT.injEq, D.ins.injEq, List.cons.injEq, exists_eq_left, exists_eq_left', exists_eq_right, exists_eq_right', exists_and_left, exists_and_right, and_assoc, decide_eq_true_eq, and_true, true_and, and_self, reduceIte, ite_true, ite_false, Bool.false_eq_true, reduceCtorEq, exists_false, false_and, and_false, exists_const, forall_const])

theorem hunits {k : Nat} {A : Around} (r : L2H.RoomH k A) : A.units + 64 < cLine := by have := r.un; omega
theorem h__law_same (T : Txt K mg CT CS CB) {k n : Nat} (ih : UseH P w K mg base "_law_same" k [false, false] (g_same n)) : UseH P w K mg base "_law_same" (k + 1) [false, false] (g_same (n + 1)) := by
  have S := sc__law_same
  refine T.f__law_same.useH (k := k) S rfl fun f cdv A outer s H E p hc hr => ⟨_, _, (dss_cons (ds_if (dt_cmp op_isN lo_isN (dr 1) (DE.w de_non) (nomark _)) (dss_one (ds_ret (de_cmp op_isN lo_isN (dr 0) (DE.w de_non) (nomark _)))) dss_nil)
      (dss_cons (ds_if (dt_val (de_isiK (K := K) rfl T.b_isinstance rfl T.b_bool (dr 1))) (dss_one (ds_ret (de_and (de_isiK (K := K) rfl T.b_isinstance rfl T.b_bool (dr 0)) (de_one (de_cmp (op_eqDK (K := K) (hunits hr)) lo_eqD (dr 0) (dr 1) (nomark _)))))) dss_nil)
      (dss_cons (ds_if (dt_val (de_isiK (K := K) rfl T.b_isinstance rfl T.b_int (dr 1))) (dss_one (ds_ret (de_and (de_isiK (K := K) rfl T.b_isinstance rfl T.b_int (dr 0)) (de_and (de_not (de_isiK (K := K) rfl T.b_isinstance rfl T.b_bool (dr 0))) (de_one (de_cmp (op_eqDK (K := K) (hunits hr)) lo_eqD (dr 0) (dr 1) (nomark _))))))) dss_nil)
      (dss_cons (ds_if (dt_val (de_isiK (K := K) rfl T.b_isinstance rfl T.b_str (dr 1))) (dss_one (ds_ret (de_and (de_isiK (K := K) rfl T.b_isinstance rfl T.b_str (dr 0)) (de_one (de_cmp (op_eqDK (K := K) (hunits hr)) lo_eqD (dr 0) (dr 1) (nomark _)))))) dss_nil)
      (dss_cons (ds_if (DTW.t (dw_and (dt_val (de_isiK (K := K) rfl T.b_isinstance rfl T.b_tuple (dr 1))) (dw_and1 (dt_not (dt_val (de_isiK (K := K) rfl T.b_isinstance rfl T.b_tuple (dr 0))))))) (dss_one (ds_ret de_bl)) dss_nil)
      (dss_cons (ds_if (DTW.t (dw_and (dt_val (de_isiK (K := K) rfl T.b_isinstance rfl T.b_list (dr 1))) (dw_and1 (dt_not (dt_val (de_isiK (K := K) rfl T.b_isinstance rfl T.b_list (dr 0))))))) (dss_one (ds_ret de_bl)) dss_nil)
      (dss_cons (ds_if (dt_cmp op_ne lo_neI (DE.w (de_callB (call_lenK (K := K)) lc_len rfl T.b_len (da_wk (dr 0) da_nil))) (DE.w (de_callB (call_lenK (K := K)) lc_len rfl T.b_len (da_wk (dr 1) da_nil))) (nomark _)) (dss_one (ds_ret de_bl)) dss_nil)
      (dss_cons (ds_forH PassesOwn.never hc (di_rng1H rfl T.b_range (da_wk (DE.w (de_callB (call_lenK (K := K)) lc_len rfl T.b_len (da_wk (dr 1) da_nil))) da_nil)) (dg_name (i := 2) S.nd) (dss_one (ds_if (dt_not (dt_val (UseH.deK (K := K) (hk := Nat.le_refl _) ih hr hc (da_wk (DE.w (de_ixK (K := K) (dr 0) (dr 2))) (da_wk (DE.w (de_ixK (K := K) (dr 1) (dr 2))) da_nil))))) (dss_one (ds_ret de_bl)) dss_nil)))
      (dss_one (ds_ret de_bl)))))))))), fun ds Q hl hg => ?_⟩
  obtain ⟨told, due, rfl, ht, hd, q⟩ := hg
  rcases hd with ⟨j, rfl⟩ | ⟨es, rfl, hel, hee⟩ | ⟨es, rfl, hel, hee⟩ | rfl | ⟨c2, rfl⟩ | ⟨y, rfl, hy⟩ <;> rcases ht with ⟨i, rfl⟩ | ⟨ds, rfl, hdl, hde⟩ | ⟨ds, rfl, hdl, hde⟩ | rfl | ⟨c1, rfl⟩ | ⟨x, rfl, hx⟩
  all_goals subst_eqs
  all_goals try simp only [isNon_str, kb_NoneType_bool, kb_NoneType_int, kb_NoneType_str, kb_NoneType_tuple, kb_NoneType_list, kb_bool_bool, kb_bool_int, kb_bool_str, kb_bool_tuple, kb_bool_list, kb_int_bool, kb_int_int, kb_int_str, kb_int_tuple, kb_int_list, kb_str_bool, kb_str_int, kb_str_str, kb_str_tuple, kb_str_list, kb_list_bool, kb_list_int, kb_list_str, kb_list_tuple, kb_list_list, kb_tuple_bool, kb_tuple_int, kb_tuple_str, kb_tuple_tuple, kb_tuple_list, ty_int, ty_lst, ty_tup, ty_non, ty_bl, ty_str, Option.some.injEq, exists_eq_left', Bool.false_eq_true, Bool.not_false, Bool.not_true, ite_true, ite_false, if_true, if_false, lenD_lst, lenD_tup]
  · refine ⟨.int i, .int j, by rw [toPy], by rw [toPy], rfl, rfl, ?_⟩
    refine q _ ?_
    simp only [PyData.eqv]
    exact ⟨fun h => by rw [of_decide_eq_true h], fun h => decide_eq_true (D.int.inj h)⟩
  · exact q _ ⟨fun h => (Bool.false_ne_true h).elim, fun h => nomatch h⟩
  · exact q _ ⟨fun h => (Bool.false_ne_true h).elim, fun h => nomatch h⟩
  · exact q _ ⟨fun h => (Bool.false_ne_true h).elim, fun h => nomatch h⟩
  · exact q _ ⟨fun h => (Bool.false_ne_true h).elim, fun h => nomatch h⟩
  · exact q _ ⟨fun h => (Bool.false_ne_true h).elim, fun h => nomatch h⟩
  · exact q _ ⟨fun h => (Bool.false_ne_true h).elim, fun h => nomatch h⟩
  · by_cases c : ds.length = es.length
    · rw [if_neg (by simp [c])]
      refine ⟨by unfold Rg; omega, ?_⟩
      rw [rngD_rgI0]
      refine forW_inv2 (α := Int) (S := Sl) D.int (fun s => [.wk (.lst ds), .wk (.lst es), s]) (fun ys xs _ => ys ++ xs = rgI 0 es.length ∧ ∀ k < ys.length, ds[k]? = es[k]?) ?_ ?_ (rgI 0 es.length) [] .no ⟨rfl, fun k h => absurd h (Nat.not_lt_zero _)⟩
      · rintro ys z ⟨h1, h2⟩
        rw [List.append_nil] at h1
        have hy : ys.length = es.length := by rw [h1, rgI_len]; omega
        refine q true ⟨fun _ => congrArg D.lst (List.ext_getElem? fun k => ?_), fun _ => rfl⟩
        by_cases hk : k < es.length
        · exact h2 k (by omega)
        · rw [List.getElem?_eq_none (by omega), List.getElem?_eq_none (by omega)]
      · rintro ys x xs z J ⟨h1, h2⟩ hJ
        obtain ⟨hx, hxl⟩ := rgI_at h1
        rw [Int.zero_add] at hx
        generalize hk : ys.length = k at *
        subst hx
        have e1 : atI ds (k : Int) = some ds[k] := by rw [DL.atI_nat, List.getElem?_eq_getElem (by omega)]
        have e2 : atI es (k : Int) = some es[k] := by rw [DL.atI_nat, List.getElem?_eq_getElem (by omega)]
        subst_eqs
        refine ⟨_, e1, _, e2, _, _, rfl, hde _ (List.getElem_mem _), hee _ (List.getElem_mem _), fun b hb => ?_⟩
        subst_eqs
        cases b with
        | true =>
          refine hJ _ ⟨by rw [List.append_assoc]; exact h1, fun j hj => ?_⟩
          rw [List.length_append, List.length_singleton] at hj
          by_cases hjk : j = k
          · subst hjk
            rw [List.getElem?_eq_getElem (by omega), List.getElem?_eq_getElem (by omega), hb.mp rfl]
          · exact h2 j (by omega)
        | false =>
          refine q false ⟨fun h => (Bool.false_ne_true h).elim, fun h => ?_⟩
          refine absurd (hb.mpr ?_) Bool.false_ne_true
          have := D.lst.inj h
          subst this
          rfl
    · rw [if_pos (by simp; omega)]
      exact q _ ⟨fun h => (Bool.false_ne_true h).elim, fun h => absurd (congrArg List.length (D.lst.inj h)) c⟩
  · exact q _ ⟨fun h => (Bool.false_ne_true h).elim, fun h => nomatch h⟩
  · exact q _ ⟨fun h => (Bool.false_ne_true h).elim, fun h => nomatch h⟩
  · exact q _ ⟨fun h => (Bool.false_ne_true h).elim, fun h => nomatch h⟩
  · exact q _ ⟨fun h => (Bool.false_ne_true h).elim, fun h => nomatch h⟩
  · exact q _ ⟨fun h => (Bool.false_ne_true h).elim, fun h => nomatch h⟩
  · exact q _ ⟨fun h => (Bool.false_ne_true h).elim, fun h => nomatch h⟩
  · by_cases c : ds.length = es.length
    · rw [if_neg (by simp [c])]
      refine ⟨by unfold Rg; omega, ?_⟩
      rw [rngD_rgI0]
      refine forW_inv2 (α := Int) (S := Sl) D.int (fun s => [.wk (.tup ds), .wk (.tup es), s]) (fun ys xs _ => ys ++ xs = rgI 0 es.length ∧ ∀ k < ys.length, ds[k]? = es[k]?) ?_ ?_ (rgI 0 es.length) [] .no ⟨rfl, fun k h => absurd h (Nat.not_lt_zero _)⟩
      · rintro ys z ⟨h1, h2⟩
        rw [List.append_nil] at h1
        have hy : ys.length = es.length := by rw [h1, rgI_len]; omega
        refine q true ⟨fun _ => congrArg D.tup (List.ext_getElem? fun k => ?_), fun _ => rfl⟩
        by_cases hk : k < es.length
        · exact h2 k (by omega)
        · rw [List.getElem?_eq_none (by omega), List.getElem?_eq_none (by omega)]
      · rintro ys x xs z J ⟨h1, h2⟩ hJ
        obtain ⟨hx, hxl⟩ := rgI_at h1
        rw [Int.zero_add] at hx
        generalize hk : ys.length = k at *
        subst hx
        have e1 : atI ds (k : Int) = some ds[k] := by rw [DL.atI_nat, List.getElem?_eq_getElem (by omega)]
        have e2 : atI es (k : Int) = some es[k] := by rw [DL.atI_nat, List.getElem?_eq_getElem (by omega)]
        subst_eqs
        refine ⟨_, e1, _, e2, _, _, rfl, hde _ (List.getElem_mem _), hee _ (List.getElem_mem _), fun b hb => ?_⟩
        subst_eqs
        cases b with
        | true =>
          refine hJ _ ⟨by rw [List.append_assoc]; exact h1, fun j hj => ?_⟩
          rw [List.length_append, List.length_singleton] at hj
          by_cases hjk : j = k
          · subst hjk
            rw [List.getElem?_eq_getElem (by omega), List.getElem?_eq_getElem (by omega), hb.mp rfl]
          · exact h2 j (by omega)
        | false =>
          refine q false ⟨fun h => (Bool.false_ne_true h).elim, fun h => ?_⟩
          refine absurd (hb.mpr ?_) Bool.false_ne_true
          have := D.tup.inj h
          subst this
          rfl
    · rw [if_pos (by simp; omega)]
      exact q _ ⟨fun h => (Bool.false_ne_true h).elim, fun h => absurd (congrArg List.length (D.tup.inj h)) c⟩
  · exact q _ ⟨fun h => (Bool.false_ne_true h).elim, fun h => nomatch h⟩
  · exact q _ ⟨fun h => (Bool.false_ne_true h).elim, fun h => nomatch h⟩
  · exact q _ ⟨fun h => (Bool.false_ne_true h).elim, fun h => nomatch h⟩
  · exact q _ ⟨fun h => (Bool.false_ne_true h).elim, fun h => nomatch h⟩
  · exact q _ ⟨fun h => (Bool.false_ne_true h).elim, fun h => nomatch h⟩
  · exact q _ ⟨fun h => (Bool.false_ne_true h).elim, fun h => nomatch h⟩
  · exact q _ ⟨fun _ => rfl, fun _ => rfl⟩
  · exact q _ ⟨fun h => (Bool.false_ne_true h).elim, fun h => nomatch h⟩
  · exact q _ ⟨fun h => (Bool.false_ne_true h).elim, fun h => nomatch h⟩
  · exact q _ ⟨fun h => (Bool.false_ne_true h).elim, fun h => nomatch h⟩
  · exact q _ ⟨fun h => (Bool.false_ne_true h).elim, fun h => nomatch h⟩
  · exact q _ ⟨fun h => (Bool.false_ne_true h).elim, fun h => nomatch h⟩
  · exact q _ ⟨fun h => (Bool.false_ne_true h).elim, fun h => nomatch h⟩
  · refine ⟨.bool c1, .bool c2, by rw [toPy], by rw [toPy], by cases c1 <;> rfl, by cases c2 <;> rfl, ?_⟩
    refine q _ ?_
    simp only [PyData.eqv]
    cases c1 <;> cases c2 <;> simp
  · exact q _ ⟨fun h => (Bool.false_ne_true h).elim, fun h => nomatch h⟩
  · exact q _ ⟨fun h => (Bool.false_ne_true h).elim, fun h => nomatch h⟩
  · exact q _ ⟨fun h => (Bool.false_ne_true h).elim, fun h => nomatch h⟩
  · exact q _ ⟨fun h => (Bool.false_ne_true h).elim, fun h => nomatch h⟩
  · exact q _ ⟨fun h => (Bool.false_ne_true h).elim, fun h => nomatch h⟩
  · exact q _ ⟨fun h => (Bool.false_ne_true h).elim, fun h => nomatch h⟩
  · refine ⟨.str x, .str y, by rw [toPy], by rw [toPy], hx, hy, ?_⟩
    refine q _ ?_
    simp only [PyData.eqv]
    rw [beq_iff_eq]
    exact ⟨fun h => by rw [h], fun h => D.str.inj h⟩
theorem uh__law_same (T : Txt K mg CT CS CB) : ∀ n : Nat, UseH P w K mg base "_law_same" n [false, false] (g_same n)
  | 0 => useH_none T.f__law_same rfl fun ds Q ⟨_, _, _, h, _⟩ => h
  | n + 1 => h__law_same T (uh__law_same T n)
end K87
end
section
set_option Elab.async false
set_option linter.all false
set_option maxRecDepth 100000
/-! K18: what raises. -/
namespace K87
open PySem PySem.Spec PyProof.Rows L2 DL SN
variable {P : Program} {w : World} {K : PySem.W.Frag} {mg : Str → Option Value} {base : Heap} {CT CS CB : Addr}
local macro_rules | `(tactic| subst_eqs) => `(tactic| try simp only [wSeq, wNext, wFor, wRng1, wRng2, wRd, wSt, wC, gNm, gTp, gsNil, gsCons, wLc, wLc2, wSeqI, wPs, wYes, wIf, wIfS, wTru, wTest, wAnd, wOr, wNot, wAndV, wOrV, wNotV, wOp, wI0, wI, wIx, wUn, wNeg, wCatT, wCB, wCF, wOpF, wCatL, wRepL, wLen, wIntOf, wMM, wListOf, wTupOf, wSorted, wK, wCons, wNil, wPar, wNoPart, wPart, wEn, wEnN, wEnT, wZp, wInI, wIsN, wNotN, wDGet, wMeth, wMake, wFldC, wCon, wIsi,
  rdSl_st, rdSl_wk, rdSl_ow, rdSl_oT, stSl_st, stSl_wk, truD_bl, truD_int, truD_lst, truD_tup, truD_non, lenD_lst, lenD_tup, lenD_scr, walkD_lst, walkD_tup, seqD_lst, seqD_tup, seqD_scr, solid_int, solid_bl, solid_tup, solid_ins, solid_non, solid_str, isNon_non, isNon_lst, isNon_tup, isNon_int, isNon_bl, frz_ow0, frz_succ, frzS_st, frzS_wk, frzS_ow, frzS_oT, frzS_no,
  startD, startS, wipeD, List.set_cons_zero, List.set_cons_succ, List.getElem?_cons_zero, List.getElem?_cons_succ, List.length_cons, List.length_nil, List.cons_append, List.nil_append, List.map_cons, List.map_nil, List.replicate, Nat.reduceSub, Nat.reduceAdd, Option.some.injEq, Sl.st.injEq, Sl.wk.injEq, Sl.ow.injEq, Sl.oT.injEq, Sl.oI.injEq, D.int.injEq, D.lst.injEq, D.tup.injEq, D.bl.injEq, D.dT.injEq, D.ins.injEq, List.cons.injEq, exists_eq_left, exists_eq_left', exists_eq_right, exists_eq_right', exists_and_left, exists_and_right, and_assoc, decide_eq_true_eq, and_true, true_and, and_self, reduceIte, ite_true, ite_false, Bool.false_eq_true, reduceCtorEq, exists_false, false_and, and_false, exists_const, forall_const])

/-- the class BadLot as the written part has it -/
def BadT (P : Program) (K : PySem.W.Frag) (mg : Str → Option Value) (CB : Addr) : Prop := ∃ fI cc cda, PySem.EX.ExT P K mg "BadLot" "lot" "the lot does not fit" "BadLot.__init__" CB fI cc cda
/-- a promise to raise it, of the lot dl -/
def spR (K : PySem.W.Frag) (C : Addr) (ms : List Bool) (g : List D → D → Prop) : Sp := fun vs H _ E => ∃ B ds dl, Same B H ∧ ArgsOk K B H ms vs ds ∧ g ds dl ∧ ∀ B' H' d v, Step B H B' H' → RepW K B' H' v dl → H' d = none → E (.ref C) (some d) (upd H' d (.xd [(("lot" : Str), v)]))
theorem spR.len {C : Addr} {ms : List Bool} {g : List D → D → Prop} {vs : List V} {H : Hp} {Q : VK} {E : XK} (h : spR K C ms g vs H Q E) : vs.length = ms.length := by
  obtain ⟨B, ds, dl, _, a, _⟩ := h
  exact a.len
def UseR (P : Program) (w : World) (K : PySem.W.Frag) (mg : Str → Option Value) (base : Heap) (C : Addr) (x : Str) (k : Nat) (ms : List Bool) (g : List D → D → Prop) : Prop :=
  ∃ (f : Addr) (fd : FuncData) (ps : List Str), mg x = some (.ref f) ∧ PySem.W.keepIn K (.ref f) = true ∧ Binds K fd ps [] ∧ FnOk P w K mg base (L2N.CX P w) k f fd ps (spR K C ms g)
def g_conR (CT : Addr) : List D → D → Prop := fun ds dl => ∃ (rows : List Rw) (columns : Nat) (lot : List Int), ds = [tabD CT rows columns, tI lot] ∧ dl = tI lot ∧ TabOk rows columns ∧ lot.length ≤ 100 ∧ (lotF rows.length 0 lot = false ∨ freeM rows lot = false)
theorem raise_body {X : Cx} {c a : Expr} {x m qual : Str} {p pos pos2 ipos : Pos} {body rest : List Stmt} {tc : TT} {Wc : WT} {ta : TA} {Wa : WA} {W : WX} {C fI cc cda : Addr} {k : Nat}
    (hd : body = .If c [.Raise (some (.Call (.Name x p) [a] [] pos)) none pos2] [] ipos :: rest) (hc : X.calm = true) (XT : PySem.EX.ExT X.prog X.K X.mg x "lot" m qual C fI cc cda) (hr : Room k X.A) (tk : L2N.Takes X W)
    (hT : DT X c tc Wc) (hA : DA X [false] [a] ta Wa) (hg : Gl X x := by rfl) (hdb : (x == ("__debug__" : Str)) = false := by decide)
    (he : starEach (a :: []) X.env = (false, eval a X.env) :: starEach [] X.env := by rfl) (hpl : (backTo pos (starEach [] X.env)).any (·.1) = false := by rfl) :
    ∃ t, PSs X body t ∧ ∀ {H0 B0 B H : Hp} {σ : L2.St} {δ : St'} {Dw : L2.Ends} {dl : D}, Env X.K H0 B0 B H σ δ → (Wc δ fun b => b = true ∧ Wa δ fun ds => ds = [dl]) →
      (∀ B' H' d v, Step B H B' H' → RepW X.K B' H' v dl → H' d = none → W (.ref C) (some d) σ (upd H' d (.xd [(("lot" : Str), v)]))) → t Dw σ H := by
  subst hd
  refine ⟨_, pss_cons (ps_if hT.p (pss_one (ps_raiseEx (k := k) hc XT hr tk hA.p hg hdb he hpl)) pss_never) pss_never, fun {H0 B0 B H σ δ Dw dl} e w q => ?_⟩
  refine hT.l H0 B0 B H _ _ _ _ e w (fun B' H' b st hb => ?_)
  obtain ⟨rfl, wa⟩ := hb
  rw [if_pos rfl]
  refine hA.l H0 B0 B' H' _ _ _ _ (e.mono st) wa fun B1 H1 vs ds s r hds => ?_
  subst hds
  cases r with
  | wk r1 r2 =>
    cases r2
    exact ⟨_, rfl, fun d hd => q B1 H1 d _ (st.trans s) r1 hd⟩
theorem r_contract (T : Txt K mg CT CS CB) (XT : BadT P K mg CB) : UseR P w K mg base CB "contract" 7 [true, false] (g_conR CT) := by
  have S := sc_contract
  obtain ⟨fI, cc, cda, XT⟩ := XT
  obtain ⟨f, fd, F, hm, hb⟩ := T.f_contract
  refine ⟨f, fd, _, hm, F.kp, hb, F.ok (k := 6) S (fun vs H Q E hs => hs.len) fun cdv A outer s H vs Q E hr hs => ?_⟩
  obtain ⟨B, ds, dl, u, a, hg, q⟩ := hs
  obtain ⟨t, hp, hl⟩ := raise_body (X := cxOf (L2N.CX P w) P w K mg base ["table", "lot", "basis", "leading", "column", "_", "others", "rows", "thing", "rest"] "contract" (defScope (top 33)) f cdv A outer s H E) (body := defBody (top 33)) (W := fun cls d _ H => E cls d H) (k := 6) rfl rfl XT hr (L2N.takes_of rfl rfl rfl rfl)
    (DTW.t (dw_or (dt_not (dt_val (Use.deK (K := K) (u_is_lot T) hr (da_wk (dr 1) (da_wk (DE.w (de_fldK (K := K) T.c_Table.cls T.c_Table.n_things (dv 0))) da_nil))))) (dw_or1 (dt_not (dt_val (UseM.deK (K := K) (u_Table_free T) hr (dv 0) (da_wk (dr 1) da_nil))))))) (da_wk (dr 1) da_nil)
  refine ⟨t, hp, hl (dl := dl) (start_env u a) ?_ q⟩
  obtain ⟨rows, columns, lot, rfl, rfl, ht, hll, hor⟩ := hg
  subst_eqs
  refine ⟨_, tabF_t _ _, lot, rows.length, rfl, _, rfl, ?_⟩
  cases e : lotF rows.length 0 lot with
  | false =>
    rw [if_pos (by rfl)]
    trivial
  | true =>
    rw [if_neg (by decide)]
    have hf : freeM rows lot = false := hor.resolve_left (by rw [e]; decide)
    refine ⟨rfl, rows, columns, lot, rfl, ht, (lotF_spec.mp e).2, by omega, _, rfl, ?_⟩
    rw [hf]
    rfl
def g_narR (CT : Addr) : List D → D → Prop := fun ds dl => ∃ (rows : List Rw) (columns : Nat) (size : Int) (items : D) (lot : List Int), ds = [tabD CT rows columns, .int size, items, tI lot] ∧ dl = tI lot ∧ TabOk rows columns ∧ lot.length ≤ 100 ∧ (lotF rows.length 0 lot = false ∨ freeM rows lot = false)
end K87
end
section
set_option Elab.async false
set_option linter.all false
/-! M1: vectors over the residues of 97: span, independence. No program here. -/
namespace K87M
abbrev F := Fin 97
abbrev Vec := Nat → F
theorem inv_fin : ∀ a : F, a ≠ 0 → ∃ b : F, a * b = 1 := by decide +kernel
/-- the span of a list -/
inductive Sp : List Vec → Vec → Prop
  | zero : Sp [] (fun _ => 0)
  | cons {us : List Vec} {u v : Vec} (a : F) : Sp us v → Sp (u :: us) (fun j => a * u j + v j)
theorem Sp.ext {us : List Vec} {v w : Vec} (h : Sp us v) (e : ∀ j, v j = w j) : Sp us w := by
  have : v = w := funext e
  rwa [← this]
theorem Sp.nil_iff {v : Vec} : Sp [] v ↔ ∀ j, v j = 0 := by
  constructor
  · intro h
    cases h
    intro j
    rfl
  · intro h
    exact Sp.zero.ext fun j => (h j).symm
theorem Sp.cons_iff {us : List Vec} {u v : Vec} : Sp (u :: us) v ↔ ∃ a : F, Sp us (fun j => v j - a * u j) := by
  constructor
  · intro h
    cases h with
    | @cons _ _ w a hw =>
      refine ⟨a, hw.ext fun j => ?_⟩
      show w j = a * u j + w j - a * u j
      grind
  · rintro ⟨a, h⟩
    exact (Sp.cons a h).ext fun j => by
      show a * u j + (v j - a * u j) = v j
      grind
theorem Sp.z : ∀ us : List Vec, Sp us (fun _ => 0)
  | [] => Sp.zero
  | u :: us => Sp.cons_iff.mpr ⟨0, (Sp.z us).ext fun j => by grind⟩
theorem Sp.add : ∀ {us : List Vec} {v w : Vec}, Sp us v → Sp us w → Sp us (fun j => v j + w j)
  | [], v, w, h1, h2 => Sp.nil_iff.mpr fun j => by rw [Sp.nil_iff.mp h1 j, Sp.nil_iff.mp h2 j]; decide
  | u :: us, v, w, h1, h2 => by
    obtain ⟨a, h1⟩ := Sp.cons_iff.mp h1
    obtain ⟨b, h2⟩ := Sp.cons_iff.mp h2
    exact Sp.cons_iff.mpr ⟨a + b, (Sp.add h1 h2).ext fun j => by grind⟩
theorem Sp.smul : ∀ {us : List Vec} {v : Vec} (c : F), Sp us v → Sp us (fun j => c * v j)
  | [], v, c, h => Sp.nil_iff.mpr fun j => by rw [Sp.nil_iff.mp h j]; grind
  | u :: us, v, c, h => by
    obtain ⟨a, h⟩ := Sp.cons_iff.mp h
    exact Sp.cons_iff.mpr ⟨c * a, (Sp.smul c h).ext fun j => by grind⟩
theorem Sp.sub {us : List Vec} {v w : Vec} (h1 : Sp us v) (h2 : Sp us w) : Sp us (fun j => v j - w j) :=
  (h1.add (h2.smul (-1))).ext fun j => by grind
theorem Sp.weak {us : List Vec} {u v : Vec} (h : Sp us v) : Sp (u :: us) v := Sp.cons_iff.mpr ⟨0, h.ext fun j => by grind⟩
theorem Sp.head {us : List Vec} {u : Vec} : Sp (u :: us) u := Sp.cons_iff.mpr ⟨1, (Sp.z us).ext fun j => by grind⟩
theorem Sp.mem : ∀ {us : List Vec} {u : Vec}, u ∈ us → Sp us u
  | v :: us, u, h => by
    rcases List.mem_cons.mp h with rfl | h
    · exact Sp.head
    · exact (Sp.mem h).weak
/-- a span in a span -/
theorem Sp.trans : ∀ {us ws : List Vec} {v : Vec}, Sp us v → (∀ u ∈ us, Sp ws u) → Sp ws v
  | [], ws, v, h, _ => (Sp.z ws).ext fun j => (Sp.nil_iff.mp h j).symm
  | u :: us, ws, v, h, hs => by
    obtain ⟨a, h⟩ := Sp.cons_iff.mp h
    have h1 := Sp.trans h fun x hx => hs x (List.mem_cons_of_mem _ hx)
    exact (h1.add ((hs u List.mem_cons_self).smul a)).ext fun j => by grind
/-- no one is in the span of those behind it -/
def Ind : List Vec → Prop
  | [] => True
  | u :: us => ¬ Sp us u ∧ Ind us
end K87M
end
section
set_option Elab.async false
set_option linter.all false
/-! M2: exchange; independence does not ask for the order. -/
namespace K87M
theorem Sp.exchange {us : List Vec} {u v : Vec} (h : Sp (u :: us) v) (hn : ¬ Sp us v) : Sp (v :: us) u := by
  obtain ⟨a, h⟩ := Sp.cons_iff.mp h
  by_cases ha : a = 0
  · subst ha
    exact absurd (h.ext fun j => by grind) hn
  · obtain ⟨b, hb⟩ := inv_fin a ha
    refine Sp.cons_iff.mpr ⟨b, (h.smul (-b)).ext fun j => ?_⟩
    grind
theorem Ind.swap {us : List Vec} {u v : Vec} (h : Ind (u :: v :: us)) : Ind (v :: u :: us) := by
  obtain ⟨h1, h2, h3⟩ := h
  exact ⟨fun z => h1 (z.exchange h2), fun z => h1 z.weak, h3⟩
theorem Sp.perm {us ws : List Vec} (p : us.Perm ws) {v : Vec} (h : Sp us v) : Sp ws v := h.trans fun u hu => Sp.mem (p.subset hu)
theorem Ind.perm {us ws : List Vec} (p : us.Perm ws) : Ind us → Ind ws := by
  induction p with
  | nil => exact id
  | cons x p ih => exact fun h => ⟨fun z => h.1 (z.perm p.symm), ih h.2⟩
  | swap x y l => exact Ind.swap
  | trans _ _ ih1 ih2 => exact fun h => ih2 (ih1 h)
theorem ind_perm {us ws : List Vec} (p : us.Perm ws) : Ind us ↔ Ind ws := ⟨Ind.perm p, Ind.perm p.symm⟩
/-- a tail's span may be put in the place of the tail -/
theorem Ind.cong : ∀ {vs us ws : List Vec}, Ind (vs ++ us) → Ind ws → (∀ v, Sp ws v → Sp us v) → Ind (vs ++ ws)
  | [], us, ws, _, h2, _ => h2
  | v :: vs, us, ws, h1, h2, h => by
    refine ⟨fun z => h1.1 ?_, Ind.cong h1.2 h2 h⟩
    refine z.trans fun x hx => ?_
    rcases List.mem_append.mp hx with hx | hx
    · exact Sp.mem (List.mem_append_left _ hx)
    · exact (h x (Sp.mem hx)).trans fun y hy => Sp.mem (List.mem_append_right _ hy)
end K87M
end
section
set_option Elab.async false
set_option linter.all false
/-! M3: triangular bases: what is cleared by one. -/
namespace K87M
abbrev PV := Nat × Vec
abbrev vecs (B : List PV) : List Vec := B.map (·.2)
/-- each row is 1 at its pivot, the later ones are 0 there -/
def Tri : List PV → Prop
  | [] => True
  | b :: B => b.2 b.1 = 1 ∧ (∀ c ∈ B, c.2 b.1 = 0) ∧ Tri B
def cl (v : Vec) (b : PV) : Vec := fun j => v j - v b.1 * b.2 j
def red (v : Vec) (B : List PV) : Vec := B.foldl cl v
theorem cl_off {v : Vec} {b : PV} {p : Nat} (h : b.2 p = 0) : cl v b p = v p := by
  show v p - v b.1 * b.2 p = v p
  rw [h]
  grind
theorem red_off : ∀ {B : List PV} {v : Vec} {p : Nat}, (∀ c ∈ B, c.2 p = 0) → red v B p = v p
  | [], v, p, _ => rfl
  | b :: B, v, p, h => by
    show red (cl v b) B p = v p
    rw [red_off fun c hc => h c (List.mem_cons_of_mem _ hc), cl_off (h b List.mem_cons_self)]
theorem red_sp : ∀ (B : List PV) (v : Vec), Sp (vecs B) (fun j => v j - red v B j)
  | [], v => (Sp.z []).ext fun j => by
    show (0 : F) = v j - v j
    grind
  | b :: B, v => by
    have h := red_sp B (cl v b)
    refine Sp.cons_iff.mpr ⟨v b.1, h.ext fun j => ?_⟩
    show cl v b j - red (cl v b) B j = v j - red (cl v b) B j - v b.1 * b.2 j
    unfold cl
    grind
theorem red_zero : ∀ {B : List PV} {v : Vec}, Tri B → ∀ b ∈ B, red v B b.1 = 0
  | c :: B, v, h, b, hb => by
    obtain ⟨h1, h2, h3⟩ := h
    rcases List.mem_cons.mp hb with rfl | hb
    · show red (cl v b) B b.1 = 0
      rw [red_off h2]
      show v b.1 - v b.1 * b.2 b.1 = 0
      rw [h1]
      grind
    · exact red_zero h3 b hb
theorem sp_off : ∀ {B : List PV} {w : Vec} {p : Nat}, Sp (vecs B) w → (∀ c ∈ B, c.2 p = 0) → w p = 0
  | [], w, p, h, _ => Sp.nil_iff.mp h p
  | b :: B, w, p, h, hp => by
    obtain ⟨a, h⟩ := Sp.cons_iff.mp h
    have h1 := sp_off h fun c hc => hp c (List.mem_cons_of_mem _ hc)
    have h2 := hp b List.mem_cons_self
    have h1 : w p - a * b.2 p = 0 := h1
    rw [h2] at h1
    grind
theorem tri_zero : ∀ {B : List PV} {w : Vec}, Tri B → Sp (vecs B) w → (∀ b ∈ B, w b.1 = 0) → ∀ j, w j = 0
  | [], w, _, h, _, j => Sp.nil_iff.mp h j
  | b :: B, w, ht, h, hz, j => by
    obtain ⟨h1, h2, h3⟩ := ht
    obtain ⟨a, ha⟩ := Sp.cons_iff.mp h
    have e1 : w b.1 - a * b.2 b.1 = 0 := sp_off ha h2
    have e2 := hz b List.mem_cons_self
    rw [h1, e2] at e1
    have a0 : a = 0 := by grind
    subst a0
    exact tri_zero h3 (ha.ext fun j => by grind) (fun c hc => hz c (List.mem_cons_of_mem _ hc)) j
/-- cleared to nothing: in the span -/
theorem red_nil_iff {B : List PV} {v : Vec} (ht : Tri B) : (∀ j, red v B j = 0) ↔ Sp (vecs B) v := by
  constructor
  · intro h
    exact (red_sp B v).ext fun j => by rw [h j]; grind
  · intro h
    have h1 : Sp (vecs B) (red v B) := (h.sub (red_sp B v)).ext fun j => by grind
    exact tri_zero ht h1 (red_zero ht)
end K87M
end
section
set_option Elab.async false
set_option linter.all false
/-! M4: what is cleared depends on the span and the pivots alone. -/
namespace K87M
theorem red_uniq {B C : List PV} (hB : Tri B) (hC : Tri C) (hs : ∀ w, Sp (vecs C) w → Sp (vecs B) w) (hp : ∀ b ∈ B, ∃ c ∈ C, c.1 = b.1) (v : Vec) : ∀ j, red v B j = red v C j := by
  have h1 : Sp (vecs B) (fun j => red v B j - red v C j) := ((hs _ (red_sp C v)).sub (red_sp B v)).ext fun j => by grind
  intro j
  have := tri_zero hB h1 (fun b hb => by
    obtain ⟨c, hc, e⟩ := hp b hb
    have e1 := red_zero (v := v) hB b hb
    have e2 := red_zero (v := v) hC c hc
    rw [e] at e2
    show red v B b.1 - red v C b.1 = 0
    rw [e1, e2]
    decide) j
  have : red v B j - red v C j = 0 := this
  grind
/-- triangular: independent -/
theorem tri_ind : ∀ {B : List PV}, Tri B → Ind (vecs B)
  | [], _ => trivial
  | b :: B, h => by
    refine ⟨fun z => ?_, tri_ind h.2.2⟩
    have e : b.2 b.1 = 0 := sp_off z h.2.1
    have this : (1 : F) = 0 := h.1.symm.trans e
    exact absurd this (by decide)
end K87M
end
section
set_option Elab.async false
set_option linter.all false
/-! M5: reduced bases: the pivots are the leads of the span. -/
namespace K87M
/-- leading and reduced -/
def Rr : List PV → Prop
  | [] => True
  | b :: B => b.2 b.1 = 1 ∧ (∀ j < b.1, b.2 j = 0) ∧ (∀ c ∈ B, c.2 b.1 = 0 ∧ b.2 c.1 = 0) ∧ Rr B
theorem Rr.tri : ∀ {B : List PV}, Rr B → Tri B
  | [], _ => trivial
  | b :: B, h => ⟨h.1, fun c hc => (h.2.2.1 c hc).1, Rr.tri h.2.2.2⟩
theorem lead_in : ∀ {B : List PV} {w : Vec} {p : Nat}, Rr B → Sp (vecs B) w → w p ≠ 0 → (∀ j < p, w j = 0) → ∃ b ∈ B, b.1 = p
  | [], w, p, _, h, hp, _ => absurd (Sp.nil_iff.mp h p) hp
  | b :: B, w, p, hr, h, hp, hz => by
    obtain ⟨h1, h2, h3, h4⟩ := hr
    obtain ⟨a, ha⟩ := Sp.cons_iff.mp h
    by_cases e : b.1 = p
    · exact ⟨b, List.mem_cons_self, e⟩
    · have hb : w b.1 - a * b.2 b.1 = 0 := sp_off ha fun c hc => (h3 c hc).1
      have key : ∀ j ≤ p, w j - a * b.2 j = w j := by
        intro j hj
        by_cases hlt : b.1 < p
        · have a0 : a = 0 := by
            rw [hz _ hlt, h1] at hb
            grind
          rw [a0]
          grind
        · have : b.2 j = 0 := h2 j (by omega)
          rw [this]
          grind
      obtain ⟨c, hc, ec⟩ := lead_in (p := p) h4 ha (by show w p - a * b.2 p ≠ 0; rw [key p (Nat.le_refl _)]; exact hp) (fun j hj => by show w j - a * b.2 j = 0; rw [key j (by omega)]; exact hz j hj)
      exact ⟨c, List.mem_cons_of_mem _ hc, ec⟩
end K87M
end
section
set_option Elab.async false
set_option linter.all false
/-! M6: one row more in a reduced basis. -/
namespace K87M
theorem rr_iff : ∀ {B : List PV}, Rr B ↔ (∀ b ∈ B, b.2 b.1 = 1 ∧ ∀ j < b.1, b.2 j = 0) ∧ B.Pairwise (fun b c => c.2 b.1 = 0 ∧ b.2 c.1 = 0)
  | [] => ⟨fun _ => ⟨(fun b h => nomatch h), .nil⟩, fun _ => trivial⟩
  | b :: B => by
    rw [List.pairwise_cons]
    constructor
    · rintro ⟨h1, h2, h3, h4⟩
      obtain ⟨i1, i2⟩ := rr_iff.mp h4
      refine ⟨fun c hc => ?_, h3, i2⟩
      rcases List.mem_cons.mp hc with rfl | hc
      · exact ⟨h1, h2⟩
      · exact i1 c hc
    · rintro ⟨h1, h2, h3⟩
      exact ⟨(h1 b List.mem_cons_self).1, (h1 b List.mem_cons_self).2, h2, rr_iff.mpr ⟨fun c hc => h1 c (List.mem_cons_of_mem _ hc), h3⟩⟩
/-- n, 1 at p, its lead, 0 at the pivots, is taken in -/
def takeIn (B : List PV) (p : Nat) (n : Vec) : List PV := B.map (fun b => (b.1, cl b.2 (p, n))) ++ [(p, n)]
theorem rr_take {B : List PV} {p : Nat} {n : Vec} (h : Rr B) (h1 : n p = 1) (h2 : ∀ j < p, n j = 0) (h3 : ∀ b ∈ B, n b.1 = 0) : Rr (takeIn B p n) := by
  obtain ⟨i1, i2⟩ := rr_iff.mp h
  have atp : ∀ b : PV, cl b.2 (p, n) p = 0 := fun b => by
    show b.2 p - b.2 p * n p = 0
    rw [h1]
    grind
  have off : ∀ (b : PV) (q : Nat), n q = 0 → cl b.2 (p, n) q = b.2 q := fun b q hq => cl_off hq
  refine rr_iff.mpr ⟨fun c hc => ?_, ?_⟩
  · rcases List.mem_append.mp hc with hc | hc
    · obtain ⟨b, hb, rfl⟩ := List.mem_map.mp hc
      obtain ⟨j1, j2⟩ := i1 b hb
      refine ⟨by show cl b.2 (p, n) b.1 = 1; rw [off b _ (h3 b hb)]; exact j1, fun j hj => ?_⟩
      have hj : j < b.1 := hj
      show b.2 j - b.2 p * n j = 0
      rw [j2 j hj]
      by_cases hlt : j < p
      · rw [h2 j hlt]
        grind
      · by_cases e : p < b.1
        · rw [j2 p e]
          grind
        · exact absurd (Nat.lt_of_lt_of_le hj (by omega)) hlt
    · rw [List.mem_singleton.mp hc]
      exact ⟨h1, h2⟩
  · refine List.pairwise_append.mpr ⟨?_, List.pairwise_singleton _ _, fun a ha b hb => ?_⟩
    · refine List.pairwise_map.mpr (i2.imp_of_mem fun {a b} ha hb hab => ?_)
      exact ⟨by show cl b.2 (p, n) a.1 = 0; rw [off b _ (h3 a ha)]; exact hab.1, by show cl a.2 (p, n) b.1 = 0; rw [off a _ (h3 b hb)]; exact hab.2⟩
    · obtain ⟨c, hc, rfl⟩ := List.mem_map.mp ha
      rw [List.mem_singleton.mp hb]
      exact ⟨h3 c hc, atp c⟩
end K87M
end
section
set_option Elab.async false
set_option linter.all false
/-! M7: the span behind one row more. -/
namespace K87M
theorem sp_take {B : List PV} {p : Nat} {n : Vec} {w : Vec} : Sp (vecs (takeIn B p n)) w ↔ Sp (n :: vecs B) w := by
  have hn : Sp (vecs (takeIn B p n)) n := Sp.mem (List.mem_map.mpr ⟨(p, n), List.mem_append_right _ List.mem_cons_self, rfl⟩)
  constructor
  · intro h
    refine h.trans fun u hu => ?_
    obtain ⟨c, hc, rfl⟩ := List.mem_map.mp hu
    rcases List.mem_append.mp hc with hc | hc
    · obtain ⟨b, hb, rfl⟩ := List.mem_map.mp hc
      have h1 : Sp (n :: vecs B) b.2 := (Sp.mem (List.mem_map.mpr ⟨b, hb, rfl⟩)).weak
      exact (h1.sub (Sp.head.smul (b.2 p))).ext fun j => rfl
    · rw [List.mem_singleton.mp hc]
      exact Sp.head
  · intro h
    refine h.trans fun u hu => ?_
    rcases List.mem_cons.mp hu with rfl | hu
    · exact hn
    · obtain ⟨b, hb, rfl⟩ := List.mem_map.mp hu
      have h1 : Sp (vecs (takeIn B p n)) (cl b.2 (p, n)) := Sp.mem (List.mem_map.mpr ⟨(b.1, cl b.2 (p, n)), List.mem_append_left _ (List.mem_map.mpr ⟨b, hb, rfl⟩), rfl⟩)
      refine (h1.add (hn.smul (b.2 p))).ext fun j => ?_
      show b.2 j - b.2 p * n j + b.2 p * n j = b.2 j
      grind
/-- a row may be exchanged for what is left of it, and for a multiple of that -/
theorem sp_left {B : List PV} {v n : Vec} {a b : F} (hab : a * b = 1) (hn : ∀ j, n j = a * red v B j) {w : Vec} : Sp (n :: vecs B) w ↔ Sp (v :: vecs B) w := by
  have hr := red_sp B v
  have h1 : Sp (v :: vecs B) n := by
    have : Sp (v :: vecs B) (fun j => a * (v j - (v j - red v B j))) := (Sp.head.sub hr.weak).smul a
    refine this.ext fun j => ?_
    rw [hn j]
    grind
  have h2 : Sp (n :: vecs B) v := by
    have : Sp (n :: vecs B) (fun j => b * n j + (v j - red v B j)) := (Sp.head.smul b).add hr.weak
    refine this.ext fun j => ?_
    rw [hn j]
    have : b * (a * red v B j) = red v B j := by
      have : b * (a * red v B j) = (a * b) * red v B j := by grind
      rw [this, hab]
      grind
    grind
  constructor
  · intro h
    refine h.trans fun u hu => ?_
    rcases List.mem_cons.mp hu with rfl | hu
    · exact h1
    · exact (Sp.mem hu).weak
  · intro h
    refine h.trans fun u hu => ?_
    rcases List.mem_cons.mp hu with rfl | hu
    · exact h2
    · exact (Sp.mem hu).weak
end K87M
end
section
set_option Elab.async false
set_option linter.all false
/-! M8: ints as residues. -/
namespace K87M
def toF (x : Int) : F := ⟨(x % 97).toNat, by omega⟩
theorem toF_val (x : Int) : ((toF x).val : Int) = x % 97 := by
  show ((x % 97).toNat : Int) = x % 97
  omega
theorem toF_ext {a b : F} (h : (a.val : Int) = b.val) : a = b := Fin.ext (by omega)
theorem toF_mod (x : Int) : toF (x % 97) = toF x := toF_ext (by rw [toF_val, toF_val]; omega)
theorem toF_add (x y : Int) : toF (x + y) = toF x + toF y := toF_ext (by
  rw [toF_val, Fin.val_add]
  have h1 := toF_val x
  have h2 := toF_val y
  omega)
theorem toF_mul (x y : Int) : toF (x * y) = toF x * toF y := toF_ext (by
  rw [toF_val, Fin.val_mul, Int.natCast_emod, Int.natCast_mul, toF_val, toF_val]
  exact Int.mul_emod x y 97)
theorem toF_zero : toF 0 = 0 := rfl
theorem toF_one : toF 1 = 1 := rfl
theorem toF_sub (x y : Int) : toF (x - y) = toF x - toF y := by
  have h := toF_add (x - y) y
  rw [Int.sub_add_cancel] at h
  grind
theorem toF_inj {x y : Int} (hx : 0 ≤ x ∧ x < 97) (hy : 0 ≤ y ∧ y < 97) (h : toF x = toF y) : x = y := by
  have h1 := toF_val x
  have h2 := toF_val y
  rw [h] at h1
  omega
theorem toF_eq_zero {x : Int} (hx : 0 ≤ x ∧ x < 97) : toF x = 0 ↔ x = 0 := ⟨fun h => toF_inj hx ⟨by decide, by decide⟩ h, fun h => by rw [h]; rfl⟩
end K87M
end
section
set_option Elab.async false
set_option linter.all false
/-! M9: rows as vectors. -/
namespace K87
open K87M
def vR (r : Rw) : Vec := fun j => toF (r.getD j 0)
def vB (b : Int × Rw) : PV := (b.1.toNat, vR b.2)
theorem vR_off {r : Rw} {j : Nat} (h : r.length ≤ j) : vR r j = 0 := by
  unfold vR
  rw [List.getD_eq_getElem?_getD, List.getElem?_eq_none h]
  rfl
theorem vR_mod (r : Rw) (j : Nat) : vR (r.map (· % 97)) j = vR r j := by
  unfold vR
  rw [List.getD_eq_getElem?_getD, List.getD_eq_getElem?_getD, List.getElem?_map]
  cases r[j]? with
  | none => rfl
  | some a => exact toF_mod a
theorem vR_clr {m : Nat} {rest : Rw} {b : Int × Rw} (h1 : rest.length = m) (h2 : b.2.length = m) (j : Nat) : vR (clr rest b) j = cl (vR rest) (vB b) j := by
  show _ = vR rest j - vR rest b.1.toNat * vR b.2 j
  unfold clr
  by_cases h : rest.getD b.1.toNat 0 ≠ 0
  · rw [if_pos h]
    by_cases hj : j < m
    · have hz : (rest.zip b.2)[j]? = some (rest.getD j 0, b.2.getD j 0) := List.getElem?_zip_eq_some.mpr ⟨getq (by omega), getq (by omega)⟩
      unfold vR
      rw [List.getD_eq_getElem?_getD, List.getElem?_map, hz]
      show toF ((rest.getD j 0 - rest.getD b.1.toNat 0 * b.2.getD j 0) % 97) = _
      rw [toF_mod, toF_sub, toF_mul]
    · rw [vR_off (by rw [List.length_map, List.length_zip]; omega), vR_off (r := rest) (by omega), vR_off (r := b.2) (by omega)]
      grind
  · rw [if_neg h]
    have h0 : rest.getD b.1.toNat 0 = 0 := Classical.byContradiction fun z => h z
    have : vR rest b.1.toNat = 0 := by unfold vR; rw [h0]; rfl
    rw [this]
    grind
end K87
end
section
set_option Elab.async false
set_option linter.all false
/-! M10: clearing as vectors; pivots. -/
namespace K87
open K87M
theorem vR_fold {m : Nat} : ∀ (B : Bas) (rest : Rw), BasOk m B → rest.length = m → ∀ j, vR (B.foldl clr rest) j = red (vR rest) (B.map vB) j
  | [], rest, _, _, j => rfl
  | b :: B, rest, hb, h, j => by
    have h1 := (hb b List.mem_cons_self).2.2
    show vR (B.foldl clr (clr rest b)) j = red (cl (vR rest) (vB b)) (B.map vB) j
    rw [vR_fold B (clr rest b) (fun c hc => hb c (List.mem_cons_of_mem _ hc)) (clr_len h h1) j]
    have e : vR (clr rest b) = cl (vR rest) (vB b) := funext fun i => vR_clr h h1 i
    rw [e]
theorem vR_red {m : Nat} {B : Bas} {row : Rw} (hb : BasOk m B) (h : row.length = m) (j : Nat) : vR (redM row B) j = red (vR row) (B.map vB) j := by
  unfold redM
  rw [vR_fold B _ hb (by rw [List.length_map]; exact h) j]
  have e : vR (row.map (· % 97)) = vR row := funext fun i => vR_mod row i
  rw [e]
theorem vR_zero {r : Rw} (hr : Res r) (j : Nat) : vR r j = 0 ↔ r.getD j 0 = 0 := toF_eq_zero (res_get hr j)
/-- the pivot is the lead -/
theorem pv_lead {r : Rw} (hr : Res r) : (pvM r = -1 ∧ ∀ j, vR r j = 0) ∨ ∃ p : Nat, pvM r = (p : Nat) ∧ p < r.length ∧ vR r p ≠ 0 ∧ ∀ j < p, vR r j = 0 := by
  rcases pvM_spec r with ⟨h1, h2⟩ | ⟨p, h1, h2, h3, h4⟩
  · refine .inl ⟨h1, fun j => (vR_zero hr j).mpr ?_⟩
    rw [List.getD_eq_getElem?_getD]
    cases e : r[j]? with
    | none => rfl
    | some a => exact h2 a (List.mem_of_getElem? e)
  · exact .inr ⟨p, h1, h2, fun z => h3 ((vR_zero hr p).mp z), fun j hj => (vR_zero hr j).mpr (h4 j hj)⟩
end K87
end
section
set_option Elab.async false
set_option linter.all false
/-! M11: the reduced form as a reduced basis of vectors. -/
namespace K87
open K87M
theorem vR_nrm {p : Int} {r : Rw} (j : Nat) : vR (nrm p r) j = toF (invM (r.getD p.toNat 0)) * vR r j := by
  unfold vR nrm
  rw [List.getD_eq_getElem?_getD, List.getElem?_map, List.getD_eq_getElem?_getD (l := r) (i := j)]
  cases r[j]? with
  | none =>
    show toF 0 = _ * toF 0
    rw [toF_zero]
    grind
  | some a =>
    show toF ((invM (r.getD p.toNat 0) * a) % 97) = _ * toF a
    rw [toF_mod, toF_mul]
theorem nrm_res (p : Int) (r : Rw) : Res (nrm p r) := fun a ha => by
  obtain ⟨b, _, rfl⟩ := List.mem_map.mp ha
  exact ⟨Int.emod_nonneg _ (by decide), Int.emod_lt_of_pos _ (by decide)⟩
theorem inv_toF {n : Int} (h0 : 0 ≤ n) (h1 : n < 97) (hn : n ≠ 0) : toF n * toF (invM n) = 1 := by
  have h := invM_ok (n := n) (by omega)
  rw [← toF_mul, ← toF_mod, h.2.2]
  rfl
/-- one step -/
structure RfOk (m : Nat) (B : Bas) : Prop where
  ok : BasOk m B
  res : ∀ b ∈ B, Res b.2
  rr : Rr (B.map vB)
theorem rf_step {m : Nat} {B : Bas} {row : Rw} (h : RfOk m B) (hl : row.length = m) (hp : 0 ≤ pvM (redM row B)) :
    RfOk m (rfS B row) ∧ ∀ w, Sp (vecs ((rfS B row).map vB)) w ↔ Sp (vR row :: vecs (B.map vB)) w := by
  obtain ⟨l1, l2⟩ := redM_ok h.ok hl
  have hred := vR_red h.ok hl
  rcases pv_lead l2 with ⟨e, _⟩ | ⟨p, e1, e2, e3, e4⟩
  · rw [e] at hp; exact absurd hp (by decide)
  · have hfok := frs_ok h.ok hl hp
    have hg := res_get l2 p
    have hne : (redM row B).getD p 0 ≠ 0 := fun z => e3 ((vR_zero l2 p).mpr z)
    have hinv := inv_toF hg.1 hg.2 hne
    have hfr : frs B row = ((p : Int), nrm p (redM row B)) := by unfold frs; rw [e1]
    have hn : ∀ j, vR (nrm p (redM row B)) j = toF (invM ((redM row B).getD p 0)) * vR (redM row B) j := fun j => by
      rw [vR_nrm, Int.toNat_natCast]
    have hmap : (rfS B row).map vB = takeIn (B.map vB) p (vR (nrm p (redM row B))) := by
      unfold rfS takeIn
      rw [List.map_append, List.map_map, List.map_map, hfr]
      congr 1
      refine List.map_congr_left fun b hb => ?_
      show (b.1.toNat, vR (redM b.2 [((p : Int), nrm p (redM row B))])) = (b.1.toNat, cl (vR b.2) (p, vR (nrm p (redM row B))))
      congr 1
      funext j
      rw [hfr] at hfok
      exact vR_red hfok (h.ok b hb).2.2 j
    have n1 : vR (nrm p (redM row B)) p = 1 := by
      rw [hn]
      show toF _ * toF ((redM row B).getD p 0) = 1
      grind
    have n2 : ∀ j < p, vR (nrm p (redM row B)) j = 0 := fun j hj => by rw [hn, e4 j hj]; grind
    have n3 : ∀ b ∈ B.map vB, vR (nrm p (redM row B)) b.1 = 0 := fun b hb => by
      rw [hn, hred, red_zero h.rr.tri b hb]
      grind
    refine ⟨⟨rfS_ok h.ok hl hp, fun b hb => ?_, ?_⟩, fun w => ?_⟩
    · rcases List.mem_append.mp hb with hb | hb
      · obtain ⟨c, hc, rfl⟩ := List.mem_map.mp hb
        exact (redM_ok hfok (h.ok c hc).2.2).2
      · rw [List.mem_singleton.mp hb, hfr]
        exact nrm_res _ _
    · rw [hmap]
      exact rr_take h.rr n1 n2 n3
    · rw [hmap, sp_take]
      exact sp_left (a := toF (invM ((redM row B).getD p 0))) (b := toF ((redM row B).getD p 0)) (by grind) (fun j => by rw [hn, hred])
end K87
end
section
set_option Elab.async false
set_option linter.all false
/-! M12: all rows have pivots: independent. -/
namespace K87
open K87M
theorem Ind.tail : ∀ {us ws : List Vec}, Ind (us ++ ws) → Ind ws
  | [], _, h => h
  | _ :: us, ws, h => Ind.tail (us := us) h.2
theorem pv_sp {m : Nat} {B : Bas} {row : Rw} (h : RfOk m B) (hl : row.length = m) : 0 ≤ pvM (redM row B) ↔ ¬ Sp (vecs (B.map vB)) (vR row) := by
  obtain ⟨l1, l2⟩ := redM_ok h.ok hl
  have hred := vR_red h.ok hl
  rw [← red_nil_iff h.rr.tri]
  rcases pv_lead l2 with ⟨e, z⟩ | ⟨p, e1, e2, e3, e4⟩
  · rw [e]
    refine ⟨fun h => absurd h (by decide), fun hn => absurd (fun j => ?_) hn⟩
    rw [← hred]
    exact z j
  · refine ⟨fun _ hn => e3 ?_, fun _ => by rw [e1]; omega⟩
    rw [hred]
    exact hn p
theorem rfgo_iff {m : Nat} : ∀ (rows : List Rw) (B : Bas), RfOk m B → AllLen m rows → (RfGo B rows ↔ Ind ((rows.map vR).reverse ++ vecs (B.map vB)))
  | [], B, h, _ => ⟨fun _ => tri_ind h.rr.tri, fun _ => trivial⟩
  | row :: rows, B, h, ha => by
    have hl := ha row List.mem_cons_self
    have ha' : AllLen m rows := fun r hr => ha r (List.mem_cons_of_mem _ hr)
    have e : ((row :: rows).map vR).reverse ++ vecs (B.map vB) = (rows.map vR).reverse ++ (vR row :: vecs (B.map vB)) := by
      rw [List.map_cons, List.reverse_cons, List.append_assoc]
      rfl
    rw [e]
    show 0 ≤ pvM (redM row B) ∧ RfGo (rfS B row) rows ↔ _
    constructor
    · rintro ⟨h1, h2⟩
      obtain ⟨s1, s2⟩ := rf_step h hl h1
      have h3 := (rfgo_iff rows (rfS B row) s1 ha').mp h2
      exact Ind.cong h3 ⟨(pv_sp h hl).mp h1, tri_ind h.rr.tri⟩ fun w hw => (s2 w).mpr hw
    · intro hi
      have hp : 0 ≤ pvM (redM row B) := (pv_sp h hl).mpr (Ind.tail hi).1
      obtain ⟨s1, s2⟩ := rf_step h hl hp
      exact ⟨hp, (rfgo_iff rows (rfS B row) s1 ha').mpr (Ind.cong hi (tri_ind s1.rr.tri) fun w hw => (s2 w).mp hw)⟩
theorem rf_all {m : Nat} : ∀ (rows : List Rw) (B : Bas), RfOk m B → AllLen m rows → RfGo B rows → RfOk m (rows.foldl rfS B) ∧ ∀ w, Sp (vecs ((rows.foldl rfS B).map vB)) w ↔ Sp (rows.map vR ++ vecs (B.map vB)) w
  | [], B, h, _, _ => ⟨h, fun w => Iff.rfl⟩
  | row :: rows, B, h, ha, hg => by
    obtain ⟨s1, s2⟩ := rf_step h (ha row List.mem_cons_self) hg.1
    obtain ⟨t1, t2⟩ := rf_all rows (rfS B row) s1 (fun r hr => ha r (List.mem_cons_of_mem _ hr)) hg.2
    refine ⟨t1, fun w => (t2 w).trans ⟨fun hw => ?_, fun hw => ?_⟩⟩
    · refine hw.trans fun u hu => ?_
      rcases List.mem_append.mp hu with hu | hu
      · exact Sp.mem (List.mem_append_left _ (List.mem_cons_of_mem _ hu))
      · refine ((s2 u).mp (Sp.mem hu)).trans fun x hx => ?_
        rcases List.mem_cons.mp hx with rfl | hx
        · exact Sp.mem (List.mem_append_left _ List.mem_cons_self)
        · exact Sp.mem (List.mem_append_right _ hx)
    · refine hw.trans fun u hu => ?_
      have big : ∀ x, Sp (vR row :: vecs (B.map vB)) x → Sp (rows.map vR ++ vecs ((rfS B row).map vB)) x := fun x hx =>
        ((s2 x).mpr hx).trans fun y hy => Sp.mem (List.mem_append_right _ hy)
      rcases List.mem_append.mp hu with hu | hu
      · rcases List.mem_cons.mp hu with rfl | hu
        · exact big _ Sp.head
        · exact Sp.mem (List.mem_append_left _ hu)
      · exact big _ (Sp.mem hu).weak
theorem rf_nil (m : Nat) : RfOk m [] := ⟨(fun b h => nomatch h), (fun b h => nomatch h), trivial⟩
end K87
end
section
set_option Elab.async false
set_option linter.all false
/-! M13: independent: as the program asks it. -/
namespace K87
open K87M
theorem tri_snoc : ∀ {B : List PV} {p : Nat} {n : Vec}, Tri B → n p = 1 → (∀ b ∈ B, n b.1 = 0) → Tri (B ++ [(p, n)])
  | [], p, n, _, h1, _ => ⟨h1, (fun c h => nomatch h), trivial⟩
  | b :: B, p, n, h, h1, h2 => by
    refine ⟨h.1, fun c hc => ?_, tri_snoc h.2.2 h1 fun c hc => h2 c (List.mem_cons_of_mem _ hc)⟩
    rcases List.mem_append.mp hc with hc | hc
    · exact h.2.1 c hc
    · rw [List.mem_singleton.mp hc]
      exact h2 b List.mem_cons_self
structure IxOk (m : Nat) (B : Bas) : Prop where
  ok : BasOk m B
  tri : Tri (B.map vB)
theorem pv_spT {m : Nat} {B : Bas} {row : Rw} (h : IxOk m B) (hl : row.length = m) : 0 ≤ pvM (redM row B) ↔ ¬ Sp (vecs (B.map vB)) (vR row) := by
  obtain ⟨l1, l2⟩ := redM_ok h.ok hl
  have hred := vR_red h.ok hl
  rw [← red_nil_iff h.tri]
  rcases pv_lead l2 with ⟨e, z⟩ | ⟨p, e1, e2, e3, e4⟩
  · rw [e]
    refine ⟨fun h => absurd h (by decide), fun hn => absurd (fun j => ?_) hn⟩
    rw [← hred]
    exact z j
  · refine ⟨fun _ hn => e3 ?_, fun _ => by rw [e1]; omega⟩
    rw [hred]
    exact hn p
theorem ix_step {m : Nat} {s : List (Int × Rw) × List Int} {q : Nat × Rw} (h : IxOk m s.1) (hl : q.2.length = m) :
    IxOk m (idxS s q).1 ∧ (0 ≤ pvM (redM q.2 s.1) → (idxS s q).2.length = s.2.length + 1 ∧ ∀ w, Sp (vecs ((idxS s q).1.map vB)) w ↔ Sp (vR q.2 :: vecs (s.1.map vB)) w) ∧ (¬ 0 ≤ pvM (redM q.2 s.1) → idxS s q = s) := by
  obtain ⟨l1, l2⟩ := redM_ok h.ok hl
  have hred := vR_red h.ok hl
  by_cases hp : 0 ≤ pvM (redM q.2 s.1)
  · rcases pv_lead l2 with ⟨e, _⟩ | ⟨p, e1, e2, e3, e4⟩
    · rw [e] at hp; exact absurd hp (by decide)
    · have hg := res_get l2 p
      have hne : (redM q.2 s.1).getD p 0 ≠ 0 := fun z => e3 ((vR_zero l2 p).mpr z)
      have hinv := inv_toF hg.1 hg.2 hne
      have hn : ∀ j, vR (nrm p (redM q.2 s.1)) j = toF (invM ((redM q.2 s.1).getD p 0)) * vR (redM q.2 s.1) j := fun j => by
        rw [vR_nrm, Int.toNat_natCast]
      have hs : idxS s q = (s.1 ++ [((p : Int), nrm p (redM q.2 s.1))], s.2 ++ [(q.1 : Int)]) := by
        unfold idxS
        rw [if_pos hp, e1]
      have n1 : vR (nrm p (redM q.2 s.1)) p = 1 := by
        rw [hn]
        show toF _ * toF ((redM q.2 s.1).getD p 0) = 1
        grind
      have n3 : ∀ b ∈ s.1.map vB, vR (nrm p (redM q.2 s.1)) b.1 = 0 := fun b hb => by
        rw [hn, hred, red_zero h.tri b hb]
        grind
      have hmap : (s.1 ++ [((p : Int), nrm p (redM q.2 s.1))]).map vB = s.1.map vB ++ [(p, vR (nrm p (redM q.2 s.1)))] := by
        rw [List.map_append]
        rfl
      refine ⟨⟨idxS_ok h.ok hl, ?_⟩, fun _ => ⟨by rw [hs, List.length_append]; rfl, fun w => ?_⟩, fun hn => absurd hp hn⟩
      · rw [hs]
        show Tri ((s.1 ++ [((p : Int), nrm p (redM q.2 s.1))]).map vB)
        rw [hmap]
        exact tri_snoc h.tri n1 n3
      · rw [hs]
        show Sp (vecs ((s.1 ++ [((p : Int), nrm p (redM q.2 s.1))]).map vB)) w ↔ _
        rw [hmap]
        have hv : vecs (s.1.map vB ++ [(p, vR (nrm p (redM q.2 s.1)))]) = vecs (s.1.map vB) ++ [vR (nrm p (redM q.2 s.1))] := by
          show (s.1.map vB ++ [(p, vR (nrm p (redM q.2 s.1)))]).map (·.2) = _
          rw [List.map_append]
          rfl
        rw [hv]
        refine Iff.trans ⟨fun h => h.perm List.perm_append_comm, fun h => h.perm List.perm_append_comm⟩ (sp_left (a := toF (invM ((redM q.2 s.1).getD p 0))) (b := toF ((redM q.2 s.1).getD p 0)) (by grind) fun j => by rw [hn, hred])
  · refine ⟨?_, fun h => absurd h hp, fun _ => by unfold idxS; rw [if_neg hp]⟩
    have : idxS s q = s := by unfold idxS; rw [if_neg hp]
    rw [this]
    exact h
end K87
end
section
set_option Elab.async false
set_option linter.all false
/-! M14: linear images: spans and independence behind a linear map whose kernel is a span. -/
namespace K87M
structure Lin (f : Vec → Vec) : Prop where
  add : ∀ v w : Vec, ∀ j, f (fun i => v i + w i) j = f v j + f w j
  smul : ∀ (a : F) (v : Vec), ∀ j, f (fun i => a * v i) j = a * f v j
theorem Lin.zero {f : Vec → Vec} (h : Lin f) (j : Nat) : f (fun _ => 0) j = 0 := by
  have := h.smul 0 (fun _ => 0) j
  have e : (fun i : Nat => (0 : F) * (fun _ => (0 : F)) i) = fun _ => 0 := by funext i; grind
  rw [e] at this
  grind
theorem Lin.sub {f : Vec → Vec} (h : Lin f) (v w : Vec) (j : Nat) : f (fun i => v i - w i) j = f v j - f w j := by
  have e : (fun i => v i - w i) = fun i => v i + (fun k => (-1) * w k) i := by funext i; grind
  rw [e, h.add, h.smul]
  grind
theorem sp_map {f : Vec → Vec} (h : Lin f) : ∀ {us : List Vec} {y : Vec}, Sp (us.map f) y ↔ ∃ w, Sp us w ∧ ∀ j, f w j = y j
  | [], y => by
    rw [List.map_nil, Sp.nil_iff]
    constructor
    · intro hy
      exact ⟨fun _ => 0, Sp.zero, fun j => by rw [h.zero, hy j]⟩
    · rintro ⟨w, hw, e⟩ j
      have : w = fun _ => 0 := funext fun i => Sp.nil_iff.mp hw i
      rw [← e j, this, h.zero]
  | u :: us, y => by
    rw [List.map_cons, Sp.cons_iff]
    constructor
    · rintro ⟨a, ha⟩
      obtain ⟨w, hw, e⟩ := (sp_map h).mp ha
      refine ⟨fun j => a * u j + w j, Sp.cons a hw, fun j => ?_⟩
      have e1 := h.add (fun i => a * u i) w j
      have e2 := h.smul a u j
      have e3 := e j
      rw [e1, e2, e3]
      grind
    · rintro ⟨w, hw, e⟩
      obtain ⟨a, ha⟩ := Sp.cons_iff.mp hw
      refine ⟨a, (sp_map h).mpr ⟨_, ha, fun j => ?_⟩⟩
      rw [h.sub w (fun i => a * u i) j, h.smul, e]
theorem sp_append : ∀ {us ws : List Vec} {v : Vec}, Sp (us ++ ws) v ↔ ∃ w, Sp us w ∧ Sp ws (fun j => v j - w j)
  | [], ws, v => by
    constructor
    · intro h
      exact ⟨fun _ => 0, Sp.zero, h.ext fun j => by grind⟩
    · rintro ⟨w, hw, h⟩
      exact h.ext fun j => by rw [Sp.nil_iff.mp hw j]; grind
  | u :: us, ws, v => by
    rw [List.cons_append, Sp.cons_iff]
    constructor
    · rintro ⟨a, ha⟩
      obtain ⟨w, hw, e⟩ := sp_append.mp ha
      exact ⟨fun j => a * u j + w j, Sp.cons a hw, e.ext fun j => by grind⟩
    · rintro ⟨w, hw, e⟩
      obtain ⟨a, ha⟩ := Sp.cons_iff.mp hw
      exact ⟨a, sp_append.mpr ⟨_, ha, e.ext fun j => by grind⟩⟩
theorem quot {f : Vec → Vec} (h : Lin f) {ws : List Vec} (hk : ∀ v, (∀ j, f v j = 0) ↔ Sp ws v) {us : List Vec} {v : Vec} : Sp (us.map f) (f v) ↔ Sp (us ++ ws) v := by
  rw [sp_map h, sp_append]
  constructor
  · rintro ⟨w, hw, e⟩
    refine ⟨w, hw, (hk _).mp fun j => ?_⟩
    rw [h.sub, e]
    grind
  · rintro ⟨w, hw, e⟩
    refine ⟨w, hw, fun j => ?_⟩
    have := (hk _).mpr e j
    rw [h.sub] at this
    grind
theorem ind_quot {f : Vec → Vec} (h : Lin f) {ws : List Vec} (hk : ∀ v, (∀ j, f v j = 0) ↔ Sp ws v) (hi : Ind ws) : ∀ {us : List Vec}, Ind (us.map f) ↔ Ind (us ++ ws)
  | [] => ⟨fun _ => hi, fun _ => trivial⟩
  | u :: us => by
    show ¬ Sp (us.map f) (f u) ∧ Ind (us.map f) ↔ ¬ Sp (us ++ ws) u ∧ Ind (us ++ ws)
    rw [quot h hk, ind_quot h hk hi]
/-! ### what is left beside the pivots -/
theorem cl_lin (b : PV) : Lin (fun v => cl v b) := ⟨fun v w j => by show v j + w j - (v b.1 + w b.1) * b.2 j = v j - v b.1 * b.2 j + (w j - w b.1 * b.2 j); grind, fun a v j => by show a * v j - a * v b.1 * b.2 j = a * (v j - v b.1 * b.2 j); grind⟩
theorem red_lin : ∀ B : List PV, Lin (fun v => red v B)
  | [] => ⟨fun _ _ _ => rfl, fun _ _ _ => rfl⟩
  | b :: B => ⟨fun v w j => by
      show red (cl (fun i => v i + w i) b) B j = red (cl v b) B j + red (cl w b) B j
      rw [← (red_lin B).add]
      congr 1
      funext i
      exact (cl_lin b).add v w i, fun a v j => by
      show red (cl (fun i => a * v i) b) B j = a * red (cl v b) B j
      rw [← (red_lin B).smul]
      congr 1
      funext i
      exact (cl_lin b).smul a v i⟩
/-- the columns beside the pivots, ascending -/
structure Oth (B : List PV) (i : Nat → Nat) : Prop where
  no : ∀ q, ∀ b ∈ B, i q ≠ b.1
  mono : ∀ q r, q < r → i q < i r
  all : ∀ p, (∀ b ∈ B, p ≠ b.1) → ∃ q, i q = p
def con (B : List PV) (i : Nat → Nat) (v : Vec) : Vec := fun q => red v B (i q)
theorem con_lin (B : List PV) (i : Nat → Nat) : Lin (con B i) := ⟨fun v w q => (red_lin B).add v w (i q), fun a v q => (red_lin B).smul a v (i q)⟩
theorem con_ker {B : List PV} {i : Nat → Nat} (ht : Tri B) (ho : Oth B i) (v : Vec) : (∀ q, con B i v q = 0) ↔ Sp (vecs B) v := by
  rw [← red_nil_iff ht]
  constructor
  · intro h j
    by_cases hj : ∃ b ∈ B, j = b.1
    · obtain ⟨b, hb, rfl⟩ := hj
      exact red_zero ht b hb
    · obtain ⟨q, rfl⟩ := ho.all j fun b hb e => hj ⟨b, hb, e⟩
      exact h q
  · intro h q
    exact h _
/-- a vector without the pivots stays -/
theorem red_stay : ∀ {B : List PV} {v : Vec}, (∀ b ∈ B, v b.1 = 0) → ∀ j, red v B j = v j
  | [], v, _, j => rfl
  | b :: B, v, h, j => by
    have e : cl v b = v := funext fun i => by show v i - v b.1 * b.2 i = v i; rw [h b List.mem_cons_self]; grind
    show red (cl v b) B j = v j
    rw [e]
    exact red_stay (fun c hc => h c (List.mem_cons_of_mem _ hc)) j
/-- at another's pivot in a reduced basis -/
theorem rr_at {B : List PV} (h : Rr B) {b c : PV} (hb : b ∈ B) (hc : c ∈ B) : b.1 = c.1 → b = c := by
  induction B with
  | nil => cases hb
  | cons a B ih =>
    obtain ⟨h1, h2, h3, h4⟩ := h
    intro e
    rcases List.mem_cons.mp hb with rfl | hb'
    · rcases List.mem_cons.mp hc with rfl | hc'
      · rfl
      · have z1 := (h3 c hc').1
        rw [e] at z1
        have z2 := ((rr_iff.mp h4).1 c hc').1
        rw [z1] at z2
        exact absurd z2 (by decide)
    · rcases List.mem_cons.mp hc with rfl | hc'
      · have z1 := (h3 b hb').1
        rw [← e] at z1
        have z2 := ((rr_iff.mp h4).1 b hb').1
        rw [z1] at z2
        exact absurd z2 (by decide)
      · exact ih h4 hb' hc' e
theorem rr_off {B : List PV} (h : Rr B) {b c : PV} (hb : b ∈ B) (hc : c ∈ B) (hn : b.1 ≠ c.1) : b.2 c.1 = 0 := by
  induction B with
  | nil => cases hb
  | cons a B ih =>
    obtain ⟨h1, h2, h3, h4⟩ := h
    rcases List.mem_cons.mp hb with rfl | hb'
    · rcases List.mem_cons.mp hc with rfl | hc'
      · exact absurd rfl hn
      · exact (h3 c hc').2
    · rcases List.mem_cons.mp hc with rfl | hc'
      · exact (h3 b hb').1
      · exact ih h4 hb' hc'
end K87M
end
section
set_option Elab.async false
set_option linter.all false
/-! M15: contracting twice is contracting at once, as vectors. -/
namespace K87M
theorem mono_uniq {i k : Nat → Nat} (hi : ∀ q r, q < r → i q < i r) (hk : ∀ q r, q < r → k q < k r) (h1 : ∀ q, ∃ r, k r = i q) (h2 : ∀ q, ∃ r, i r = k q) : ∀ n, i n = k n := by
  intro n
  induction n using Nat.strongRecOn with
  | _ n ih =>
    obtain ⟨r, hr⟩ := h1 n
    obtain ⟨s, hs⟩ := h2 n
    have hr' : n ≤ r := by
      refine Nat.le_of_not_lt fun hlt => ?_
      have e := ih r hlt
      have := hi r n hlt
      omega
    have hs' : n ≤ s := by
      refine Nat.le_of_not_lt fun hlt => ?_
      have e := ih s hlt
      have := hk s n hlt
      omega
    have m1 : k n ≤ k r := by
      rcases Nat.lt_or_eq_of_le hr' with h | h
      · exact Nat.le_of_lt (hk _ _ h)
      · rw [h]; exact Nat.le_refl _
    have m2 : i n ≤ i s := by
      rcases Nat.lt_or_eq_of_le hs' with h | h
      · exact Nat.le_of_lt (hi _ _ h)
      · rw [h]; exact Nat.le_refl _
    omega
theorem mono_le {i : Nat → Nat} (h : ∀ q r, q < r → i q < i r) {q r : Nat} (e : i q < i r) : q < r := by
  rcases Nat.lt_trichotomy q r with h1 | h1 | h1
  · exact h1
  · rw [h1] at e; exact absurd e (Nat.lt_irrefl _)
  · have := h _ _ h1; omega
/-- the setting: first cleared by B, what is left of ss cleared by C; all cleared by D -/
structure Twice (B C D : List PV) (i k l : Nat → Nat) (ss : List Vec) : Prop where
  rB : Rr B
  rC : Rr C
  rD : Rr D
  oB : Oth B i
  oC : Oth C k
  oD : Oth D l
  sC : ∀ w, Sp (vecs C) w ↔ Sp (ss.map (con B i)) w
  sD : ∀ w, Sp (vecs D) w ↔ Sp (ss ++ vecs B) w
theorem Rr.at1 {B : List PV} (h : Rr B) {b : PV} (hb : b ∈ B) : b.2 b.1 = 1 := ((rr_iff.mp h).1 b hb).1
theorem Rr.lt {B : List PV} (h : Rr B) {b : PV} (hb : b ∈ B) {j : Nat} (hj : j < b.1) : b.2 j = 0 := ((rr_iff.mp h).1 b hb).2 j hj
variable {B C D : List PV} {i k l : Nat → Nat} {ss : List Vec}
theorem Twice.pB (T : Twice B C D i k l ss) {b : PV} (hb : b ∈ B) : ∃ d ∈ D, d.1 = b.1 := by
  refine lead_in (w := b.2) T.rD ((T.sD _).mpr ?_) (by rw [T.rB.at1 hb]; decide) fun j hj => T.rB.lt hb hj
  exact (Sp.mem (List.mem_map.mpr ⟨b, hb, rfl⟩)).trans fun u hu => Sp.mem (List.mem_append_right _ hu)
theorem Twice.pC (T : Twice B C D i k l ss) {c : PV} (hc : c ∈ C) : ∃ d ∈ D, d.1 = i c.1 := by
  have h1 : Sp (ss.map (con B i)) c.2 := (T.sC _).mp (Sp.mem (List.mem_map.mpr ⟨c, hc, rfl⟩))
  obtain ⟨w, hw, e⟩ := (sp_map (con_lin B i)).mp h1
  have e : ∀ j, red w B (i j) = c.2 j := e
  refine lead_in (w := red w B) T.rD ((T.sD _).mpr ?_) (by rw [e, T.rC.at1 hc]; decide) fun j hj => ?_
  · have a1 : Sp (ss ++ vecs B) w := hw.trans fun u hu => Sp.mem (List.mem_append_left _ hu)
    have a2 : Sp (ss ++ vecs B) (fun j => w j - red w B j) := (red_sp B w).trans fun u hu => Sp.mem (List.mem_append_right _ hu)
    exact (a1.sub a2).ext fun j => by grind
  · by_cases hp : ∃ b ∈ B, j = b.1
    · obtain ⟨b, hb, rfl⟩ := hp
      exact red_zero T.rB.tri b hb
    · obtain ⟨q, rfl⟩ := T.oB.all j fun b hb e => hp ⟨b, hb, e⟩
      rw [e]
      exact T.rC.lt hc (mono_le T.oB.mono hj)
theorem Twice.pD (T : Twice B C D i k l ss) {d : PV} (hd : d ∈ D) : (∃ b ∈ B, d.1 = b.1) ∨ ∃ c ∈ C, d.1 = i c.1 := by
  by_cases hp : ∃ b ∈ B, d.1 = b.1
  · exact .inl hp
  · refine .inr ?_
    obtain ⟨q, hq⟩ := T.oB.all d.1 fun b hb e => hp ⟨b, hb, e⟩
    have hz : ∀ b ∈ B, d.2 b.1 = 0 := fun b hb => by
      obtain ⟨d', hd', e⟩ := T.pB hb
      rw [← e]
      exact rr_off T.rD hd hd' fun z => hp ⟨b, hb, z.trans e⟩
    have hs := red_stay hz
    have h1 : Sp (ss ++ vecs B) d.2 := (T.sD _).mp (Sp.mem (List.mem_map.mpr ⟨d, hd, rfl⟩))
    have h2 : Sp (vecs C) (con B i d.2) := (T.sC _).mpr ((quot (con_lin B i) (con_ker T.rB.tri T.oB)).mpr h1)
    obtain ⟨c, hc, e⟩ := lead_in (p := q) T.rC h2 (by show red d.2 B (i q) ≠ 0; rw [hs, hq, T.rD.at1 hd]; decide) fun j hj => by
      show red d.2 B (i j) = 0
      rw [hs]
      exact T.rD.lt hd (by rw [← hq]; exact T.oB.mono _ _ hj)
    exact ⟨c, hc, by rw [← hq, e]⟩
theorem Twice.cols (T : Twice B C D i k l ss) (q : Nat) : i (k q) = l q := by
  refine mono_uniq (i := fun q => i (k q)) (fun q r h => T.oB.mono _ _ (T.oC.mono _ _ h)) T.oD.mono (fun q => ?_) (fun q => ?_) q
  · refine T.oD.all _ fun d hd e => ?_
    rcases T.pD hd with ⟨b, hb, z⟩ | ⟨c, hc, z⟩
    · exact T.oB.no _ b hb (e.trans z)
    · rw [z] at e
      have : k q = c.1 := by
        rcases Nat.lt_trichotomy (k q) c.1 with h | h | h
        · have := T.oB.mono _ _ h; omega
        · exact h
        · have := T.oB.mono _ _ h; omega
      exact T.oC.no _ c hc this
  · obtain ⟨r, hr⟩ := T.oB.all (l q) fun b hb e => by
      obtain ⟨d, hd, z⟩ := T.pB hb
      exact T.oD.no q d hd (e.trans z.symm)
    obtain ⟨s, hs⟩ := T.oC.all r fun c hc e => by
      obtain ⟨d, hd, z⟩ := T.pC hc
      exact T.oD.no q d hd (by rw [z, ← hr, e])
    exact ⟨s, by show i (k s) = l q; rw [hs, hr]⟩
theorem Twice.same (T : Twice B C D i k l ss) (r : Vec) (q : Nat) : con C k (con B i r) q = con D l r q := by
  have h0 : Sp (ss.map (con B i)) (fun j => con B i r j - red (con B i r) C j) := (T.sC _).mp (red_sp C _)
  obtain ⟨w, hw, e⟩ := (sp_map (con_lin B i)).mp h0
  have hz : ∀ j, red (fun a => r a - w a) B (i j) = red (con B i r) C j := fun j => by
    have e1 := (red_lin B).sub r w (i j)
    have e2 : red w B (i j) = con B i r j - red (con B i r) C j := e j
    rw [e1, e2]
    show red r B (i j) - (red r B (i j) - _) = _
    grind
  have hD : ∀ j, red r D j = red (fun a => r a - w a) B j := by
    have s1 : Sp (vecs D) (fun j => red r D j - red (fun a => r a - w a) B j) := by
      have a1 := red_sp D r
      have a2 : Sp (vecs D) w := (T.sD _).mpr (hw.trans fun u hu => Sp.mem (List.mem_append_left _ hu))
      have a3 : Sp (vecs D) (fun j => (r j - w j) - red (fun a => r a - w a) B j) := (T.sD _).mpr ((red_sp B _).trans fun u hu => Sp.mem (List.mem_append_right _ hu))
      exact ((a2.add a3).sub a1).ext fun j => by grind
    have s2 := tri_zero T.rD.tri s1 fun d hd => by
      have z1 := red_zero (v := r) T.rD.tri d hd
      have z2 : red (fun a => r a - w a) B d.1 = 0 := by
        rcases T.pD hd with ⟨b, hb, z⟩ | ⟨c, hc, z⟩
        · rw [z]; exact red_zero T.rB.tri b hb
        · rw [z, hz]; exact red_zero T.rC.tri c hc
      rw [z1, z2]
      decide
    intro j
    have := s2 j
    grind
  show red (con B i r) C (k q) = red r D (l q)
  rw [hD, ← T.cols, hz]
end K87M
end
section
set_option Elab.async false
set_option linter.all false
/-! M16: determinants: by the first row and by the last row. -/
namespace K87M
def sm (f : Nat → F) : Nat → F
  | 0 => 0
  | n + 1 => sm f n + f n
theorem sm_congr {f g : Nat → F} : ∀ {n : Nat}, (∀ j < n, f j = g j) → sm f n = sm g n
  | 0, _ => rfl
  | n + 1, h => by
    show sm f n + f n = sm g n + g n
    rw [sm_congr fun j hj => h j (by omega), h n (by omega)]
theorem sm_add (f g : Nat → F) : ∀ n, sm (fun j => f j + g j) n = sm f n + sm g n
  | 0 => by show (0 : F) = 0 + 0; decide
  | n + 1 => by
    show sm (fun j => f j + g j) n + (f n + g n) = sm f n + f n + (sm g n + g n)
    rw [sm_add f g n]
    grind
theorem sm_mul (c : F) (f : Nat → F) : ∀ n, sm (fun j => c * f j) n = c * sm f n
  | 0 => by show (0 : F) = c * 0; grind
  | n + 1 => by
    show sm (fun j => c * f j) n + c * f n = c * (sm f n + f n)
    rw [sm_mul c f n]
    grind
theorem tri_sum (H : Nat → Nat → F) : ∀ n, sm (fun j => sm (H j) n) (n + 1) = sm (fun b => sm (fun a => H b a + H a (b - 1)) b) (n + 1)
  | 0 => rfl
  | n + 1 => by
    have e1 : sm (fun j => sm (H j) (n + 1)) (n + 1) = sm (fun j => sm (H j) n) (n + 1) + sm (fun j => H j n) (n + 1) := sm_add (fun j => sm (H j) n) (fun j => H j n) (n + 1)
    have e2 : sm (fun a => H (n + 1) a + H a (n + 1 - 1)) (n + 1) = sm (H (n + 1)) (n + 1) + sm (fun a => H a n) (n + 1) := sm_add (H (n + 1)) (fun a => H a n) (n + 1)
    show sm (fun j => sm (H j) (n + 1)) (n + 1) + sm (H (n + 1)) (n + 1) = sm (fun b => sm (fun a => H b a + H a (b - 1)) b) (n + 1) + sm (fun a => H (n + 1) a + H a (n + 1 - 1)) (n + 1)
    rw [e1, e2, tri_sum H n]
    grind
theorem sum_turn {H K : Nat → Nat → F} {n : Nat} (h1 : ∀ b a, a < b → H b a = K a (b - 1)) (h2 : ∀ b a, a < b → H a (b - 1) = K b a) : sm (fun j => sm (H j) n) (n + 1) = sm (fun j => sm (K j) n) (n + 1) := by
  rw [tri_sum H, tri_sum K]
  refine sm_congr fun b _ => sm_congr fun a ha => ?_
  rw [h1 b a ha, h2 b a ha]
  grind
def sg : Nat → F
  | 0 => 1
  | n + 1 => - sg n
theorem er_lt {c : List Int} {b a : Nat} (h : a < b) : (c.eraseIdx b).getD a 0 = c.getD a 0 := by
  rw [List.getD_eq_getElem?_getD, List.getD_eq_getElem?_getD, List.getElem?_eraseIdx, if_pos h]
theorem er_ge {c : List Int} {b a : Nat} (h : a < b) : (c.eraseIdx a).getD (b - 1) 0 = c.getD b 0 := by
  rw [List.getD_eq_getElem?_getD, List.getD_eq_getElem?_getD, List.getElem?_eraseIdx, if_neg (by omega), Nat.sub_add_cancel (by omega)]
theorem er_er {c : List Int} {b a : Nat} (h : a < b) : (c.eraseIdx b).eraseIdx a = (c.eraseIdx a).eraseIdx (b - 1) := by
  refine List.ext_getElem? fun i => ?_
  simp only [List.getElem?_eraseIdx]
  by_cases h1 : i < a
  · simp only [h1, if_true, show i < b by omega, show i < b - 1 by omega]
  · by_cases h2 : i < b - 1
    · simp only [h1, h2, if_true, if_false, show i + 1 < b by omega]
    · simp only [h1, h2, if_false, show ¬ i + 1 < b by omega, show ¬ i + 1 < a by omega]
/-- by the first row -/
def dF (A : Nat → Int → F) : Nat → Nat → List Int → F
  | 0, _, _ => 1
  | n + 1, s, c => sm (fun j => sg j * A s (c.getD j 0) * dF A n (s + 1) (c.eraseIdx j)) (n + 1)
/-- by the last row -/
def lF (A : Nat → Int → F) : Nat → Nat → List Int → F
  | 0, _, _ => 1
  | n + 1, s, c => sm (fun q => sg (n + q) * A (s + n) (c.getD q 0) * lF A n s (c.eraseIdx q)) (n + 1)
theorem det_same (A : Nat → Int → F) : ∀ n s c, dF A n s c = lF A n s c ∧ dF A (n + 1) s c = lF A (n + 1) s c
  | 0, s, c => by
    refine ⟨rfl, ?_⟩
    show (0 : F) + sg 0 * A s (c.getD 0 0) * 1 = 0 + sg (0 + 0) * A (s + 0) (c.getD 0 0) * 1
    rfl
  | n + 1, s, c => by
    refine ⟨(det_same A n s c).2, ?_⟩
    have e1 : dF A (n + 2) s c = sm (fun j => sm (fun i => sg j * A s (c.getD j 0) * (sg (n + i) * A (s + 1 + n) ((c.eraseIdx j).getD i 0) * lF A n (s + 1) ((c.eraseIdx j).eraseIdx i))) (n + 1)) (n + 2) := by
      refine sm_congr fun j _ => ?_
      rw [(det_same A n (s + 1) (c.eraseIdx j)).2, sm_mul]
      rfl
    have e2 : lF A (n + 2) s c = sm (fun q => sm (fun k => sg (n + 1 + q) * A (s + (n + 1)) (c.getD q 0) * (sg k * A s ((c.eraseIdx q).getD k 0) * lF A n (s + 1) ((c.eraseIdx q).eraseIdx k))) (n + 1)) (n + 2) := by
      refine sm_congr fun q _ => ?_
      rw [← (det_same A n s (c.eraseIdx q)).2, sm_mul]
      congr 1
      refine sm_congr fun k _ => ?_
      rw [(det_same A n (s + 1) _).1]
    rw [e1, e2]
    have hs : s + 1 + n = s + (n + 1) := by omega
    refine sum_turn (fun b a h => ?_) (fun b a h => ?_)
    · obtain ⟨b, rfl⟩ : ∃ d, b = d + 1 := ⟨b - 1, by omega⟩
      rw [er_lt h, er_ge h, er_er h, hs]
      have x1 : sg (b + 1) = - sg b := rfl
      have x2 : sg (n + 1 + a) = - sg (n + a) := by rw [show n + 1 + a = n + a + 1 by omega]; rfl
      rw [x1, x2, Nat.add_sub_cancel]
      grind
    · obtain ⟨b, rfl⟩ : ∃ d, b = d + 1 := ⟨b - 1, by omega⟩
      rw [er_lt h, er_ge h, er_er h, hs]
      have x2 : sg (n + 1 + (b + 1)) = sg (n + b) := by
        rw [show n + 1 + (b + 1) = n + b + 1 + 1 by omega]
        show - - sg (n + b) = _
        grind
      rw [x2, Nat.add_sub_cancel]
      grind
end K87M
end
section
set_option Elab.async false
set_option linter.all false
/-! M17: the law's clearing empties exactly what is independent. -/
namespace K87
open K87M
theorem elR_len (width : Nat) (lead : Rw) (c : Nat) (row : Rw) : (elR width lead c row).length = width := by unfold elR; rw [List.length_map, List.length_range]
theorem elR_res (width : Nat) (lead : Rw) (c : Nat) (row : Rw) : Res (elR width lead c row) := fun a ha => by
  obtain ⟨b, _, rfl⟩ := List.mem_map.mp ha
  exact ⟨Int.emod_nonneg _ (by decide), Int.emod_lt_of_pos _ (by decide)⟩
theorem vR_elR {width : Nat} {lead row : Rw} {c : Nat} (hl : lead.length = width) (hr : row.length = width) (j : Nat) : vR (elR width lead c row) j = vR lead c * vR row j - vR row c * vR lead j := by
  by_cases h : j < width
  · unfold vR elR
    rw [List.getD_eq_getElem?_getD, List.getElem?_map, List.getElem?_range h]
    show toF (_ % 97) = _
    rw [toF_mod, toF_sub, toF_mul, toF_mul]
  · rw [vR_off (by rw [elR_len]; omega), vR_off (r := lead) (j := j) (by omega), vR_off (r := row) (j := j) (by omega)]
    grind
/-- away with one row, at its column -/
def elv (l : Vec) (c : Nat) (v : Vec) : Vec := fun j => l c * v j - v c * l j
theorem elv_lin (l : Vec) (c : Nat) : Lin (elv l c) := ⟨fun v w j => by show l c * (v j + w j) - (v c + w c) * l j = l c * v j - v c * l j + (l c * w j - w c * l j); grind, fun a v j => by show l c * (a * v j) - a * v c * l j = a * (l c * v j - v c * l j); grind⟩
theorem elv_ker {l : Vec} {c : Nat} (h : l c ≠ 0) (v : Vec) : (∀ j, elv l c v j = 0) ↔ Sp [l] v := by
  obtain ⟨b, hb⟩ := K87M.inv_fin (l c) h
  rw [Sp.cons_iff]
  constructor
  · intro hz
    refine ⟨b * v c, Sp.nil_iff.mpr fun j => ?_⟩
    have e : l c * v j - v c * l j = 0 := hz j
    show v j - b * v c * l j = 0
    have : v j = b * (l c * v j) := by
      have : b * (l c * v j) = (l c * b) * v j := by grind
      rw [this, hb]
      grind
    grind
  · rintro ⟨a, ha⟩ j
    have e := fun j => Sp.nil_iff.mp ha j
    have e1 : v j - a * l j = 0 := e j
    have e2 : v c - a * l c = 0 := e c
    show l c * v j - v c * l j = 0
    have x1 : v j = a * l j := by grind
    have x2 : v c = a * l c := by grind
    rw [x1, x2]
    grind
theorem take_out {α : Type} {d : α} : ∀ {l : List α} {i : Nat}, i < l.length → l.Perm (l.getD i d :: (l.set i (l.getD 0 d)).tail)
  | a :: l, 0, _ => List.Perm.refl _
  | a :: l, i + 1, h => by
    have h : i < l.length := by simpa using h
    show (a :: l).Perm (l.getD i d :: l.set i a)
    have e1 : l = l.take i ++ l.getD i d :: l.drop (i + 1) := by
      rw [List.getD_eq_getElem?_getD, List.getElem?_eq_getElem h]
      show l = l.take i ++ l[i] :: l.drop (i + 1)
      rw [← List.drop_eq_getElem_cons h, List.take_append_drop]
    have e2 : l.set i a = l.take i ++ a :: l.drop (i + 1) := by rw [List.set_eq_take_append_cons_drop, if_pos h]
    rw [e2]
    refine List.Perm.trans ?_ (List.Perm.cons _ List.perm_middle.symm)
    refine List.Perm.trans ?_ (List.Perm.swap _ _ _)
    refine List.Perm.cons _ ?_
    have := (List.perm_middle (a := l.getD i d) (l₁ := l.take i) (l₂ := l.drop (i + 1)))
    rwa [← e1] at this
structure ElOk (width c : Nat) (act : List Rw) : Prop where
  len : AllLen width act
  res : ∀ r ∈ act, Res r
  zero : ∀ r ∈ act, ∀ j < c, vR r j = 0
theorem elC_step {width c : Nat} {act : List Rw} (h : ElOk width c act) : ElOk width (c + 1) (elC width act c) ∧ (Ind (act.map vR) ↔ Ind ((elC width act c).map vR)) := by
  cases e : act.findIdx? (fun r => decide (r.getD c 0 % 97 ≠ 0)) with
  | none =>
    have hz : ∀ r ∈ act, vR r c = 0 := fun r hr => by
      have := List.findIdx?_eq_none_iff.mp e r hr
      rw [decide_eq_false_iff_not] at this
      have g := res_get (h.res r hr) c
      exact (vR_zero (h.res r hr) c).mpr (by omega)
    have ee : elC width act c = act := by unfold elC; rw [e]
    rw [ee]
    refine ⟨⟨h.len, h.res, fun r hr j hj => ?_⟩, Iff.rfl⟩
    rcases Nat.lt_or_eq_of_le (Nat.le_of_lt_succ hj) with hj | hj
    · exact h.zero r hr j hj
    · rw [hj]; exact hz r hr
  | some i =>
    obtain ⟨hi, hp, _⟩ := List.findIdx?_eq_some_iff_getElem.mp e
    have hgi : act.getD i [] = act[i] := by rw [List.getD_eq_getElem?_getD, List.getElem?_eq_getElem hi]; rfl
    have ee : elC width act c = ((act.set i (act.getD 0 [])).tail).map (elR width (act.getD i []) c) := by unfold elC; rw [e]
    have pm := take_out (d := ([] : Rw)) hi
    have hmem : ∀ r, r ∈ act.getD i [] :: (act.set i (act.getD 0 [])).tail → r ∈ act := fun r hr => pm.symm.subset hr
    have hlead : act.getD i [] ∈ act := hmem _ List.mem_cons_self
    have hne : vR (act.getD i []) c ≠ 0 := fun z => by
      have := (vR_zero (h.res _ hlead) c).mp z
      rw [hgi] at this
      rw [this] at hp
      exact absurd hp (by decide)
    have hrow : ∀ r ∈ (act.set i (act.getD 0 [])).tail, ∀ j, vR (elR width (act.getD i []) c r) j = elv (vR (act.getD i [])) c (vR r) j := fun r hr j =>
      vR_elR (h.len _ hlead) (h.len _ (hmem _ (List.mem_cons_of_mem _ hr))) j
    rw [ee]
    refine ⟨⟨fun r hr => ?_, fun r hr => ?_, fun r hr j hj => ?_⟩, ?_⟩
    · obtain ⟨s, _, rfl⟩ := List.mem_map.mp hr
      exact elR_len _ _ _ _
    · obtain ⟨s, _, rfl⟩ := List.mem_map.mp hr
      exact elR_res _ _ _ _
    · obtain ⟨s, hs, rfl⟩ := List.mem_map.mp hr
      rw [hrow s hs]
      show vR (act.getD i []) c * vR s j - vR s c * vR (act.getD i []) j = 0
      rcases Nat.lt_or_eq_of_le (Nat.le_of_lt_succ hj) with hj | hj
      · rw [h.zero _ hlead j hj, h.zero _ (hmem _ (List.mem_cons_of_mem _ hs)) j hj]
        grind
      · rw [hj]
        grind
    · rw [ind_perm (pm.map vR), List.map_cons]
      have em : (((act.set i (act.getD 0 [])).tail).map (elR width (act.getD i []) c)).map vR = (((act.set i (act.getD 0 [])).tail).map vR).map (elv (vR (act.getD i [])) c) := by
        rw [List.map_map, List.map_map]
        refine List.map_congr_left fun r hr => funext fun j => hrow r hr j
      rw [em, ind_quot (elv_lin _ _) (elv_ker hne) ⟨fun z => hne (Sp.nil_iff.mp z c), trivial⟩]
      exact ind_perm (List.perm_append_singleton _ _).symm
theorem elF_ind {width : Nat} {rows : List Rw} (hl : AllLen width rows) (hr : ∀ r ∈ rows, Res r) : (elF width rows).isEmpty = true ↔ Ind (rows.map vR) := by
  have key : ∀ n, ElOk width n ((List.range n).foldl (elC width) rows) ∧ (Ind (rows.map vR) ↔ Ind (((List.range n).foldl (elC width) rows).map vR)) := by
    intro n
    induction n with
    | zero => exact ⟨⟨hl, hr, fun _ _ j hj => absurd hj (Nat.not_lt_zero _)⟩, Iff.rfl⟩
    | succ n ih =>
      rw [List.range_succ, List.foldl_append]
      obtain ⟨s1, s2⟩ := elC_step ih.1
      exact ⟨s1, ih.2.trans s2⟩
  obtain ⟨k1, k2⟩ := key width
  rw [k2]
  show (elF width rows).isEmpty = true ↔ Ind ((elF width rows).map vR)
  have k1 : ElOk width width (elF width rows) := k1
  cases e : elF width rows with
  | nil => exact ⟨fun _ => trivial, fun _ => rfl⟩
  | cons r rs =>
    rw [e] at k1
    refine ⟨fun h => (by cases h), fun h => absurd ?_ h.1⟩
    refine (Sp.z _).ext fun j => ?_
    by_cases hj : j < width
    · exact (k1.zero r List.mem_cons_self j hj).symm
    · rw [vR_off (by rw [k1.len r List.mem_cons_self]; omega)]
/-! ### independent, as the program asks it -/
theorem idx_iff {m : Nat} : ∀ (rows : List Rw) (k : Nat) (s : Bas × List Int), IxOk m s.1 → AllLen m rows →
    ((enL k rows).foldl idxS s).2.length ≤ s.2.length + rows.length ∧ (((enL k rows).foldl idxS s).2.length = s.2.length + rows.length ↔ Ind ((rows.map vR).reverse ++ vecs (s.1.map vB)))
  | [], k, s, h, _ => ⟨Nat.le_refl _, ⟨fun _ => tri_ind h.tri, fun _ => rfl⟩⟩
  | row :: rows, k, s, h, ha => by
    have hl : row.length = m := ha row List.mem_cons_self
    have ha' : AllLen m rows := fun r hr => ha r (List.mem_cons_of_mem _ hr)
    obtain ⟨s1, s2, s3⟩ := ix_step (q := (k, row)) h hl
    obtain ⟨t1, t2⟩ := idx_iff rows (k + 1) (idxS s (k, row)) s1 ha'
    have e : ((row :: rows).map vR).reverse ++ vecs (s.1.map vB) = (rows.map vR).reverse ++ (vR row :: vecs (s.1.map vB)) := by
      rw [List.map_cons, List.reverse_cons, List.append_assoc]
      rfl
    rw [e, List.length_cons]
    show ((enL (k + 1) rows).foldl idxS (idxS s (k, row))).2.length ≤ s.2.length + (rows.length + 1) ∧ (((enL (k + 1) rows).foldl idxS (idxS s (k, row))).2.length = s.2.length + (rows.length + 1) ↔ _)
    by_cases hp : 0 ≤ pvM (redM row s.1)
    · obtain ⟨u1, u2⟩ := s2 hp
      refine ⟨by omega, ?_⟩
      rw [show s.2.length + (rows.length + 1) = (idxS s (k, row)).2.length + rows.length by omega, t2]
      exact ⟨fun hi => Ind.cong hi ⟨(pv_spT h hl).mp hp, tri_ind h.tri⟩ fun w hw => (u2 w).mpr hw, fun hi => Ind.cong hi (tri_ind s1.tri) fun w hw => (u2 w).mp hw⟩
    · rw [s3 hp] at t1 ⊢
      refine ⟨by omega, ⟨fun z => by omega, fun hi => absurd ((pv_spT h hl).mpr (Ind.tail hi).1) hp⟩⟩
theorem ix_nil (m : Nat) : IxOk m [] := ⟨(fun b h => nomatch h), trivial⟩
theorem indM_ind {m : Nat} {rows : List Rw} (hl : AllLen m rows) : indM rows = true ↔ Ind (rows.map vR) := by
  obtain ⟨h1, h2⟩ := idx_iff rows 0 ([], []) (ix_nil m) hl
  unfold indM idxM
  rw [decide_eq_true_eq]
  have e : ((rows.map vR).reverse ++ vecs (([] : Bas).map vB)) = (rows.map vR).reverse := List.append_nil _
  rw [e] at h2
  rw [ind_perm (List.reverse_perm (rows.map vR)).symm, ← h2]
  show _ ↔ _ = 0 + rows.length
  omega
theorem rfgo_ind {m : Nat} {rows : List Rw} (hl : AllLen m rows) : RfGo [] rows ↔ Ind (rows.map vR) := by
  rw [rfgo_iff rows [] (rf_nil m) hl]
  have e : ((rows.map vR).reverse ++ vecs (([] : Bas).map vB)) = (rows.map vR).reverse := List.append_nil _
  rw [e]
  exact (ind_perm (List.reverse_perm (rows.map vR)))
end K87
end
section
set_option Elab.async false
set_option linter.all false
/-! M18: contracting: columns left, twice and at once, free things. -/
namespace K87
open K87M
def ioF (B : Bas) (m : Nat) (q : Nat) : Nat := if q < (othM B m).length then ((othM B m).getD q 0).toNat else m + (q - (othM B m).length)
theorem asc_rgI (a b : Int) : Asc (rgI a b) := by
  unfold rgI
  refine List.pairwise_map.mpr ((List.pairwise_lt_range).imp fun h => ?_)
  omega
theorem asc_oth (B : Bas) (m : Nat) : Asc (othM B m) := (asc_rgI _ _).filter _
theorem oth_get {B : Bas} {m q : Nat} (h : q < (othM B m).length) : (othM B m).getD q 0 ∈ othM B m := by
  rw [List.getD_eq_getElem?_getD, List.getElem?_eq_getElem h]
  exact List.getElem_mem h
theorem oth_lt {B : Bas} {m q r : Nat} (hq : q < r) (h : r < (othM B m).length) : (othM B m).getD q 0 < (othM B m).getD r 0 := by
  rw [List.getD_eq_getElem?_getD, List.getElem?_eq_getElem (by omega), List.getD_eq_getElem?_getD, List.getElem?_eq_getElem h]
  exact List.pairwise_iff_getElem.mp (asc_oth B m) q r (by omega) h hq
theorem ioF_oth {B : Bas} {m : Nat} (hb : BasOk m B) : Oth (B.map vB) (ioF B m) := by
  refine ⟨fun q b hbm e => ?_, fun q r h => ?_, fun p hp => ?_⟩
  · obtain ⟨c, hc, rfl⟩ := List.mem_map.mp hbm
    obtain ⟨c0, c1, _⟩ := hb c hc
    have e : ioF B m q = c.1.toNat := e
    unfold ioF at e
    by_cases h : q < (othM B m).length
    · rw [if_pos h] at e
      have g := oth_get h
      have gi := oth_in g
      have gn := (List.mem_filter.mp g).2
      have : (othM B m).getD q 0 = c.1 := by omega
      rw [this, not_mem_dec, decide_eq_true_eq] at gn
      exact gn (List.mem_map.mpr ⟨c, hc, rfl⟩)
    · rw [if_neg h] at e
      omega
  · unfold ioF
    by_cases hr : r < (othM B m).length
    · rw [if_pos hr, if_pos (by omega)]
      have := oth_lt h hr
      have := oth_in (oth_get (B := B) (m := m) (q := q) (by omega))
      omega
    · rw [if_neg hr]
      by_cases hq : q < (othM B m).length
      · rw [if_pos hq]
        have := oth_in (oth_get hq)
        omega
      · rw [if_neg hq]
        omega
  · by_cases h : p < m
    · have hm : (p : Int) ∈ othM B m := by
        refine List.mem_filter.mpr ⟨mem_rgI.mpr ⟨by omega, by omega⟩, ?_⟩
        rw [not_mem_dec, decide_eq_true_eq]
        intro z
        obtain ⟨c, hc, e⟩ := List.mem_map.mp z
        refine hp (vB c) (List.mem_map.mpr ⟨c, hc, rfl⟩) ?_
        show p = c.1.toNat
        omega
      obtain ⟨q, hq, e⟩ := List.mem_iff_getElem.mp hm
      refine ⟨q, ?_⟩
      unfold ioF
      rw [if_pos hq, List.getD_eq_getElem?_getD, List.getElem?_eq_getElem hq]
      show (othM B m)[q].toNat = p
      omega
    · refine ⟨(othM B m).length + (p - m), ?_⟩
      unfold ioF
      rw [if_neg (by omega)]
      omega
theorem vR_conR {m : Nat} {B : Bas} {row : Rw} (hb : BasOk m B) (h : row.length = m) (q : Nat) : vR (conR B m row) q = con (B.map vB) (ioF B m) (vR row) q := by
  show _ = red (vR row) (B.map vB) (ioF B m q)
  rw [← vR_red hb h]
  unfold ioF
  by_cases hq : q < (othM B m).length
  · rw [if_pos hq]
    unfold vR conR
    rw [List.getD_eq_getElem?_getD, List.getElem?_map, List.getElem?_eq_getElem hq, List.getD_eq_getElem?_getD (l := othM B m), List.getElem?_eq_getElem hq]
    rfl
  · rw [if_neg hq, vR_off (by unfold conR; rw [List.length_map]; omega), vR_off (by rw [(redM_ok hb h).1]; omega)]
/-! ### pivots are unlike -/
theorem rr_nodup {B : Bas} {m : Nat} (hb : BasOk m B) (h : Rr (B.map vB)) : (B.map (·.1)).Nodup := by
  induction B with
  | nil => exact .nil
  | cons b B ih =>
    obtain ⟨h1, h2, h3, h4⟩ := h
    refine List.nodup_cons.mpr ⟨fun z => ?_, ih (fun c hc => hb c (List.mem_cons_of_mem _ hc)) h4⟩
    obtain ⟨c, hc, e⟩ := List.mem_map.mp z
    have z1 := (h3 (vB c) (List.mem_map.mpr ⟨c, hc, rfl⟩)).1
    have z2 := ((rr_iff.mp h4).1 (vB c) (List.mem_map.mpr ⟨c, hc, rfl⟩)).1
    have e2 : (vB c).1 = (vB b).1 := by show c.1.toNat = b.1.toNat; rw [e]
    rw [e2] at z2
    rw [z1] at z2
    exact absurd z2 (by decide)
theorem filter_both {α : Type} (p : α → Bool) : ∀ l : List α, (l.filter p).length + (l.filter fun x => !p x).length = l.length
  | [] => rfl
  | x :: l => by
    have := filter_both p l
    cases h : p x with
    | true => rw [List.filter_cons_of_pos h, List.filter_cons_of_neg (by simp [h]), List.length_cons, List.length_cons]; omega
    | false => rw [List.filter_cons_of_neg (by simp [h]), List.filter_cons_of_pos (by simp [h]), List.length_cons, List.length_cons]; omega
theorem oth_count {B : Bas} {m : Nat} (hb : BasOk m B) (h : Rr (B.map vB)) : (othM B m).length + B.length = m := by
  have h1 := filter_both (fun c => decide (c ∈ B.map (·.1))) (rgI 0 m)
  rw [rgI_len] at h1
  have h2 : ((rgI 0 m).filter fun c => decide (c ∈ B.map (·.1))).length = (B.map (·.1)).length := by
    refine Nat.le_antisymm (nodup_le ((nodup_rgI _ _).filter _) fun x hx => ?_) (nodup_le (rr_nodup hb h) fun x hx => ?_)
    · exact of_decide_eq_true (List.mem_filter.mp hx).2
    · refine List.mem_filter.mpr ⟨?_, decide_eq_true hx⟩
      obtain ⟨c, hc, rfl⟩ := List.mem_map.mp hx
      exact mem_rgI.mpr ⟨(hb c hc).1, (hb c hc).2.1⟩
  rw [List.length_map] at h2
  unfold othM
  omega
theorem rf_count : ∀ (rows : List Rw) (B : Bas), (rows.foldl rfS B).length = B.length + rows.length
  | [], B => rfl
  | row :: rows, B => by
    show (rows.foldl rfS (rfS B row)).length = _
    rw [rf_count rows, rfS_len, List.length_cons]
    omega
/-! ### contracting, as vectors -/
section
variable {rows : List Rw} {columns : Nat} {lot : List Int}
def Ins (rows : List Rw) (lot : List Int) : Prop := ∀ x ∈ lot, 0 ≤ x ∧ x < rows.length
theorem lotR_len (ht : TabOk rows columns) (hl : Ins rows lot) : AllLen columns (lotR rows lot) := rows_len ht.l hl
theorem lotR_res (ht : TabOk rows columns) : ∀ r ∈ lotR rows lot, Res r := fun r hr => by
  obtain ⟨x, _, rfl⟩ := List.mem_map.mp hr
  exact rows_res ht _
theorem lotB_ok (ht : TabOk rows columns) (hl : Ins rows lot) (hg : RfGo [] (lotR rows lot)) : RfOk columns (lotB rows lot) ∧ ∀ w, Sp (vecs ((lotB rows lot).map vB)) w ↔ Sp ((lotR rows lot).map vR) w := by
  obtain ⟨h1, h2⟩ := rf_all (lotR rows lot) [] (rf_nil columns) (lotR_len ht hl) hg
  refine ⟨h1, fun w => ?_⟩
  have := h2 w
  have e : (lotR rows lot).map vR ++ vecs (([] : Bas).map vB) = (lotR rows lot).map vR := List.append_nil _
  rw [e] at this
  exact this
theorem conC_eq (ht : TabOk rows columns) (hl : Ins rows lot) (hg : RfGo [] (lotR rows lot)) : conC rows columns lot + lot.length = columns := by
  obtain ⟨h1, _⟩ := lotB_ok ht hl hg
  have h2 := oth_count h1.ok h1.rr
  have h3 := rf_count (lotR rows lot) []
  have h4 : (lotB rows lot).length = lot.length := by
    show ((lotR rows lot).foldl rfS []).length = _
    rw [h3]
    show 0 + (lot.map _).length = _
    rw [List.length_map, Nat.zero_add]
  unfold conC
  omega
theorem con_len (rows : List Rw) (columns : Nat) (lot : List Int) : (conM rows columns lot).length = rows.length := by unfold conM; rw [List.length_map]
theorem lotR_con (hl : Ins rows lot) {known : List Int} : lotR (conM rows columns known) lot = (lotR rows lot).map (conR (lotB rows known) columns) := by
  unfold lotR conM
  rw [List.map_map]
  refine List.map_congr_left fun x hx => ?_
  have := hl x hx
  show (rows.map _).getD x.toNat [] = conR _ _ (rows.getD x.toNat [])
  rw [List.getD_eq_getElem?_getD, List.getD_eq_getElem?_getD, List.getElem?_map, List.getElem?_eq_getElem (by omega)]
  rfl
theorem lotR_conV (ht : TabOk rows columns) {known : List Int} (hk : Ins rows known) (hg : RfGo [] (lotR rows known)) (hl : Ins rows lot) :
    (lotR (conM rows columns known) lot).map vR = ((lotR rows lot).map vR).map (con ((lotB rows known).map vB) (ioF (lotB rows known) columns)) := by
  obtain ⟨h1, _⟩ := lotB_ok ht hk hg
  rw [lotR_con hl]
  have hL : ∀ L : List Rw, AllLen columns L → (L.map (conR (lotB rows known) columns)).map vR = (L.map vR).map (con ((lotB rows known).map vB) (ioF (lotB rows known) columns)) := fun L hL => by
    rw [List.map_map, List.map_map]
    refine List.map_congr_left fun r hr => ?_
    refine funext fun q => ?_
    exact vR_conR h1.ok (hL r hr) q
  exact hL _ (lotR_len ht hl)
theorem con_ind (ht : TabOk rows columns) {known : List Int} (hk : Ins rows known) (hg : RfGo [] (lotR rows known)) (hl : Ins rows lot) :
    Ind ((lotR (conM rows columns known) lot).map vR) ↔ Ind ((lotR rows known).map vR ++ (lotR rows lot).map vR) := by
  obtain ⟨h1, h2⟩ := lotB_ok ht hk hg
  have hi := (rfgo_ind (lotR_len ht hk)).mp hg
  rw [lotR_conV ht hk hg hl, ind_quot (con_lin _ _) (con_ker h1.rr.tri (ioF_oth h1.ok)) (tri_ind h1.rr.tri)]
  rw [ind_perm (List.perm_append_comm (l₁ := (lotR rows known).map vR))]
  exact ⟨fun h => Ind.cong h hi fun w hw => (h2 w).mpr hw, fun h => Ind.cong h (tri_ind h1.rr.tri) fun w hw => (h2 w).mp hw⟩
theorem con_tab (ht : TabOk rows columns) (hl : Ins rows lot) (hg : RfGo [] (lotR rows lot)) : TabOk (conM rows columns lot) (conC rows columns lot) := by
  obtain ⟨h1, _⟩ := lotB_ok ht hl hg
  refine ⟨?_, ?_, ?_, ?_⟩
  · have := conC_eq ht hl hg
    have := ht.c
    omega
  · rw [con_len]; exact ht.r
  · intro r hr
    unfold conM at hr
    obtain ⟨x, _, rfl⟩ := List.mem_map.mp hr
    unfold conR conC
    rw [List.length_map]
  · intro r hr
    unfold conM at hr
    obtain ⟨x, hx, rfl⟩ := List.mem_map.mp hr
    exact conR_res h1.ok (ht.l x hx)
theorem free_con (ht : TabOk rows columns) {known : List Int} (hk : Ins rows known) (hg : RfGo [] (lotR rows known)) (hl : Ins rows lot) :
    freeM (conM rows columns known) lot = (elF columns (lotR rows known ++ lotR rows lot)).isEmpty := by
  have hl' : Ins (conM rows columns known) lot := fun x hx => by rw [con_len]; exact hl x hx
  rw [Bool.eq_iff_iff]
  have a1 : freeM (conM rows columns known) lot = true ↔ Ind ((lotR (conM rows columns known) lot).map vR) := indM_ind (lotR_len (con_tab ht hk hg) hl')
  have a2 : AllLen columns (lotR rows known ++ lotR rows lot) := fun r hr => (List.mem_append.mp hr).elim (lotR_len ht hk r) (lotR_len ht hl r)
  have a3 : ∀ r ∈ lotR rows known ++ lotR rows lot, Res r := fun r hr => (List.mem_append.mp hr).elim (lotR_res ht r) (lotR_res ht r)
  rw [a1, con_ind ht hk hg hl, elF_ind a2 a3, List.map_append]
theorem free_rf (ht : TabOk rows columns) (hl : Ins rows lot) : freeM rows lot = true ↔ RfGo [] (lotR rows lot) := by
  rw [rfgo_ind (lotR_len ht hl)]
  exact indM_ind (lotR_len ht hl)
/-! ### twice -/
theorem vR_inj {r s : Rw} (hr : Res r) (hs : Res s) (hl : r.length = s.length) (h : ∀ j, vR r j = vR s j) : r = s := by
  refine List.ext_getElem hl fun j h1 h2 => ?_
  have e := toF_inj (res_get hr j) (res_get hs j) (h j)
  rw [List.getD_eq_getElem?_getD, List.getElem?_eq_getElem h1, List.getD_eq_getElem?_getD, List.getElem?_eq_getElem h2] at e
  exact e
structure Split (rows : List Rw) (first second both : List Int) : Prop where
  f : Ins rows first
  s : Ins rows second
  b : Ins rows both
  p : both.Perm (first ++ second)
theorem twice_go (ht : TabOk rows columns) {first second both : List Int} (S : Split rows first second both) (hg : RfGo [] (lotR rows first)) :
    RfGo [] (lotR (conM rows columns first) second) ↔ RfGo [] (lotR rows both) := by
  have hs' : Ins (conM rows columns first) second := fun x hx => by rw [con_len]; exact S.s x hx
  rw [rfgo_ind (lotR_len (con_tab ht S.f hg) hs'), con_ind ht S.f hg S.s, rfgo_ind (lotR_len ht S.b)]
  refine (ind_perm ?_).symm
  rw [← List.map_append]
  refine List.Perm.map _ ?_
  show (both.map _).Perm (first.map _ ++ second.map _)
  rw [← List.map_append]
  exact S.p.map _
theorem twice_eq (ht : TabOk rows columns) {first second both : List Int} (S : Split rows first second both) (hg : RfGo [] (lotR rows first)) (hb : RfGo [] (lotR rows both)) :
    conC (conM rows columns first) (conC rows columns first) second = conC rows columns both ∧ conM (conM rows columns first) (conC rows columns first) second = conM rows columns both := by
  have hs' : Ins (conM rows columns first) second := fun x hx => by rw [con_len]; exact S.s x hx
  have ht1 := con_tab ht S.f hg
  have hg2 := (twice_go ht S hg).mpr hb
  obtain ⟨b1, b2⟩ := lotB_ok ht S.f hg
  obtain ⟨c1, c2⟩ := lotB_ok ht1 hs' hg2
  obtain ⟨d1, d2⟩ := lotB_ok ht S.b hb
  have n1 := conC_eq ht S.f hg
  have n2 := conC_eq ht1 hs' hg2
  have n3 := conC_eq ht S.b hb
  have n4 : both.length = first.length + second.length := by rw [S.p.length_eq, List.length_append]
  have hC : conC (conM rows columns first) (conC rows columns first) second = conC rows columns both := by omega
  refine ⟨hC, ?_⟩
  have T : Twice ((lotB rows first).map vB) ((lotB (conM rows columns first) second).map vB) ((lotB rows both).map vB) (ioF (lotB rows first) columns) (ioF (lotB (conM rows columns first) second) (conC rows columns first)) (ioF (lotB rows both) columns) ((lotR rows second).map vR) := by
    refine ⟨b1.rr, c1.rr, d1.rr, ioF_oth b1.ok, ioF_oth c1.ok, ioF_oth d1.ok, fun w => ?_, fun w => ?_⟩
    · rw [c2, lotR_conV ht S.f hg S.s]
    · rw [d2]
      have pm : ((lotR rows both).map vR).Perm ((lotR rows second).map vR ++ (lotR rows first).map vR) := by
        rw [← List.map_append]
        refine List.Perm.map _ ?_
        show (both.map _).Perm (second.map _ ++ first.map _)
        rw [← List.map_append]
        exact (S.p.trans List.perm_append_comm).map _
      refine Iff.trans ⟨fun h => h.perm pm, fun h => h.perm pm.symm⟩ ?_
      constructor
      · intro h
        refine h.trans fun u hu => ?_
        rcases List.mem_append.mp hu with hu | hu
        · exact Sp.mem (List.mem_append_left _ hu)
        · exact ((b2 u).mpr (Sp.mem hu)).trans fun x hx => Sp.mem (List.mem_append_right _ hx)
      · intro h
        refine h.trans fun u hu => ?_
        rcases List.mem_append.mp hu with hu | hu
        · exact Sp.mem (List.mem_append_left _ hu)
        · exact ((b2 u).mp (Sp.mem hu)).trans fun x hx => Sp.mem (List.mem_append_right _ hx)
  unfold conM
  rw [List.map_map]
  refine List.map_congr_left fun r hr => ?_
  show conR (lotB (conM rows columns first) second) (conC rows columns first) (conR (lotB rows first) columns r) = conR (lotB rows both) columns r
  have hrl := ht.l r hr
  have hr1 : (conR (lotB rows first) columns r).length = conC rows columns first := by unfold conR conC; rw [List.length_map]
  refine vR_inj (conR_res c1.ok hr1) (conR_res d1.ok hrl) ?_ fun q => ?_
  · have e1 : (conR (lotB (conM rows columns first) second) (conC rows columns first) (conR (lotB rows first) columns r)).length = conC (conM rows columns first) (conC rows columns first) second := by unfold conR; rw [List.length_map]; rfl
    have e2 : (conR (lotB rows both) columns r).length = conC rows columns both := by unfold conR; rw [List.length_map]; rfl
    rw [e1, e2, hC]
  · rw [vR_conR c1.ok hr1, vR_conR d1.ok hrl, ← T.same]
    have e : vR (conR (lotB rows first) columns r) = con ((lotB rows first).map vB) (ioF (lotB rows first) columns) (vR r) := funext fun q => vR_conR b1.ok hrl q
    rw [e]
end
end K87
end
section
set_option Elab.async false
set_option linter.all false
/-! M19: the minors of the program are those of the law. -/
namespace K87
open K87M
theorem sg_toF : ∀ k : Nat, toF (1 - 2 * ((k : Int) % 2)) = sg k
  | 0 => rfl
  | k + 1 => by
    show _ = - sg k
    rw [← sg_toF k]
    have e : (1 - 2 * (((k + 1 : Nat) : Int) % 2)) = 0 - (1 - 2 * ((k : Int) % 2)) := by omega
    rw [e, toF_sub]
    show 0 - _ = - _
    grind
theorem foldl_sm {f : Int → Nat → Int} {g : Nat → F} : ∀ {n : Nat}, (∀ t, ∀ j < n, toF (f t j) = toF t + g j) → toF ((List.range n).foldl f 0) = sm g n
  | 0, _ => rfl
  | n + 1, h => by
    rw [List.range_succ, List.foldl_append]
    show toF (f ((List.range n).foldl f 0) n) = sm g n + g n
    rw [h _ n (by omega), foldl_sm fun t j hj => h t j (by omega)]
theorem enL_range : ∀ (c : List Int) (k : Nat), enL k c = (List.range c.length).map fun i => (k + i, c.getD i 0)
  | [], k => rfl
  | x :: c, k => by
    rw [List.length_cons, List.range_succ_eq_map, List.map_cons, List.map_map]
    show (k, x) :: enL (k + 1) c = _
    rw [enL_range c (k + 1)]
    refine congrArg (List.cons (k, x)) (List.map_congr_left fun i _ => ?_)
    show (k + 1 + i, c.getD i 0) = (k + (i + 1), (x :: c).getD (i + 1) 0)
    rw [show k + 1 + i = k + (i + 1) by omega]
    rfl
def mA (rs : List Rw) : Nat → Int → F := fun i c => toF ((rs.getD i []).getD c.toNat 0)
theorem er_len {c : List Int} {n j : Nat} (hc : c.length = n + 1) (hj : j < n + 1) : (c.eraseIdx j).length = n := by rw [List.length_eraseIdx, if_pos (by omega)]; omega
theorem mnV_lF (rs : List Rw) : ∀ (n : Nat) (c : List Int), c.length = n → toF (mnV rs n c) = lF (mA rs) n 0 c
  | 0, c, _ => rfl
  | n + 1, c, hc => by
    show toF (_ % 97) = _
    rw [toF_mod, enL_range, List.foldl_map, hc]
    refine foldl_sm fun t j hj => ?_
    show toF (t + (1 - 2 * (((n : Int) - ((0 + j : Nat) : Int)) % 2)) * (rs.getD n []).getD (c.getD j 0).toNat 0 * mnV rs n (c.take (0 + j) ++ c.drop (0 + j + 1))) = toF t + sg (n + j) * mA rs (0 + n) (c.getD j 0) * lF (mA rs) n 0 (c.eraseIdx j)
    rw [Nat.zero_add, Nat.zero_add, ← List.eraseIdx_eq_take_drop_succ, toF_add, toF_mul, toF_mul, mnV_lF rs n _ (er_len hc hj), ← sg_toF (n + j)]
    have : ((n : Int) - (j : Nat)) % 2 = ((n + j : Nat) : Int) % 2 := by omega
    rw [this]
    rfl
def Qm (rs : List Rw) (c : List Int) : List Rw := rs.map fun r => c.map fun j => r.getD j.toNat 0
theorem er_map {α β : Type} (f : α → β) : ∀ (l : List α) (j : Nat), (l.map f).eraseIdx j = (l.eraseIdx j).map f
  | [], j => rfl
  | x :: l, 0 => rfl
  | x :: l, j + 1 => by
    show f x :: (l.map f).eraseIdx j = f x :: (l.eraseIdx j).map f
    rw [er_map f l j]
theorem detN_dF (rs : List Rw) : ∀ (n s : Nat) (c : List Int), rs.length = s + n → c.length = n → toF (detN n (Qm (rs.drop s) c)) = dF (mA rs) n s c
  | 0, s, c, _, _ => rfl
  | n + 1, s, c, hr, hc => by
    have h0 : (Qm (rs.drop s) c).getD 0 [] = c.map fun j => (rs.getD s []).getD j.toNat 0 := by
      unfold Qm
      rw [List.getD_eq_getElem?_getD, List.getElem?_map, List.getElem?_drop, List.getD_eq_getElem?_getD (l := rs), Nat.add_zero, List.getElem?_eq_getElem (by omega)]
      rfl
    have h1 : ∀ j, (Qm (rs.drop s) c).tail.map (fun r => r.eraseIdx j) = Qm (rs.drop (s + 1)) (c.eraseIdx j) := fun j => by
      unfold Qm
      rw [← List.map_tail, List.tail_drop, List.map_map]
      refine List.map_congr_left fun r _ => ?_
      exact er_map _ c j
    show toF (_ % 97) = _
    rw [toF_mod]
    refine foldl_sm fun t j hj => ?_
    rw [h0, h1]
    have h2 : (c.map fun j => (rs.getD s []).getD j.toNat 0).getD j 0 = (rs.getD s []).getD (c.getD j 0).toNat 0 := by
      rw [List.getD_eq_getElem?_getD, List.getElem?_map, List.getD_eq_getElem?_getD (l := c), List.getElem?_eq_getElem (by omega)]
      rfl
    rw [h2, toF_add, toF_mul, toF_mul, detN_dF rs n (s + 1) (c.eraseIdx j) (by omega) (er_len hc hj)]
    unfold sgn
    rw [sg_toF]
    rfl
theorem lm_mn (rows : List Rw) (lot : List Int) (columns : Nat) : lmM rows lot columns = mnM (lotR rows lot) columns := by
  have hl : (lotR rows lot).length = lot.length := List.length_map _
  unfold lmM mnM
  rw [hl]
  refine List.map_congr_left fun c hc => ?_
  have hcl := (mem_chs.mp hc).1
  have hs : sqM rows lot c = Qm ((lotR rows lot).drop 0) c := by
    rw [List.drop_zero]
    unfold sqM Qm lotR
    rw [List.map_map]
    rfl
  refine toF_inj (detN_res _ _) (mnV_res _ _ _) ?_
  rw [hs, detN_dF _ _ 0 c (by omega) hcl, (det_same _ _ _ _).1, mnV_lF _ _ _ hcl]
end K87
end
section
set_option Elab.async false
set_option linter.all false
/-! M20: the law's kept list is the program's. -/
namespace K87
open K87M
theorem tri_nodup {B : Bas} {m : Nat} (hb : BasOk m B) (h : Tri (B.map vB)) : (B.map (·.1)).Nodup := by
  induction B with
  | nil => exact .nil
  | cons b B ih =>
    obtain ⟨h1, h2, h3⟩ := h
    refine List.nodup_cons.mpr ⟨fun z => ?_, ih (fun c hc => hb c (List.mem_cons_of_mem _ hc)) h3⟩
    obtain ⟨c, hc, e⟩ := List.mem_map.mp z
    have z1 := h2 (vB c) (List.mem_map.mpr ⟨c, hc, rfl⟩)
    have z2 : ∀ {C : List PV}, Tri C → ∀ d ∈ C, d.2 d.1 = 1 := by
      intro C hC
      induction C with
      | nil => intro d hd; cases hd
      | cons a C ih2 =>
        intro d hd
        rcases List.mem_cons.mp hd with rfl | hd
        · exact hC.1
        · exact ih2 hC.2.2 d hd
    have z2 := z2 h3 (vB c) (List.mem_map.mpr ⟨c, hc, rfl⟩)
    have e2 : (vB c).1 = (vB b).1 := by show c.1.toNat = b.1.toNat; rw [e]
    rw [e2] at z2
    rw [z1] at z2
    exact absurd z2 (by decide)
theorem ix_le {B : Bas} {m : Nat} (h : IxOk m B) : B.length ≤ m := by
  have h2 : (B.map (·.1)).length ≤ (rgI 0 m).length := nodup_le (tri_nodup h.ok h.tri) fun x hx => by
    obtain ⟨c, hc, rfl⟩ := List.mem_map.mp hx
    exact mem_rgI.mpr ⟨(h.ok c hc).1, (h.ok c hc).2.1⟩
  rw [List.length_map, rgI_len] at h2
  omega
structure GrI (m : Nat) (order : List Item) (s : Bas × List Int) (t : List Item × List Rw) : Prop where
  ix : IxOk m s.1
  len : AllLen m t.2
  res : ∀ r ∈ t.2, Res r
  sp : ∀ w, Sp (vecs (s.1.map vB)) w ↔ Sp (t.2.map vR) w
  ind : Ind (t.2.map vR)
  n : t.2.length = s.1.length
  same : t.1 = s.2.map fun ix => order.getD ix.toNat (0, [])
theorem gr_step {rows : List Rw} {columns m : Nat} {order : List Item} {s : Bas × List Int} {t : List Item × List Rw} {pre rest : List Item} {i : Item}
    (h : GrI m order s t) (ho : order = pre ++ i :: rest) (hm : (itR rows columns i).length = m) (hr : Res (itR rows columns i)) : GrI m order (idxS s (pre.length, itR rows columns i)) (lkS rows columns t i) := by
  obtain ⟨s1, s2, s3⟩ := ix_step (q := (pre.length, itR rows columns i)) h.ix hm
  have hlm : lmM rows i.2 columns = itR rows columns i := lm_mn rows i.2 columns
  have hel : AllLen m (t.2 ++ [itR rows columns i]) := fun r hr => by
    rcases List.mem_append.mp hr with hr | hr
    · exact h.len r hr
    · rw [List.mem_singleton.mp hr]; exact hm
  have her : ∀ r ∈ t.2 ++ [itR rows columns i], Res r := fun r hr' => by
    rcases List.mem_append.mp hr' with hr' | hr'
    · exact h.res r hr'
    · rw [List.mem_singleton.mp hr']; exact hr
  have hi : (elF m (t.2 ++ [itR rows columns i])).isEmpty = true ↔ ¬ Sp (vecs (s.1.map vB)) (vR (itR rows columns i)) := by
    rw [elF_ind hel her, List.map_append, ind_perm List.perm_append_comm]
    show ¬ Sp (t.2.map vR) _ ∧ Ind (t.2.map vR) ↔ _
    rw [h.sp]
    exact ⟨fun z => z.1, fun z => ⟨z, h.ind⟩⟩
  by_cases hp : 0 ≤ pvM (redM (itR rows columns i) s.1)
  · obtain ⟨u1, u2⟩ := s2 hp
    have hns := (pv_spT h.ix hm).mp hp
    have hs : idxS s (pre.length, itR rows columns i) = (s.1 ++ [(pvM (redM (itR rows columns i) s.1), nrm (pvM (redM (itR rows columns i) s.1)) (redM (itR rows columns i) s.1))], s.2 ++ [(pre.length : Int)]) := by
      unfold idxS
      rw [if_pos hp]
    have hlt : t.2.length < m := by
      have := ix_le s1
      rw [hs, List.length_append] at this
      have h1 : ([(pvM (redM (itR rows columns i) s.1), nrm (pvM (redM (itR rows columns i) s.1)) (redM (itR rows columns i) s.1))] : Bas).length = 1 := rfl
      rw [h1] at this
      rw [h.n]
      omega
    have ht : lkS rows columns t i = (t.1 ++ [i], t.2 ++ [itR rows columns i]) := by
      unfold lkS
      rw [hlm, hm, if_pos ⟨hlt, hi.mpr hns⟩]
    have hind : Ind ((t.2 ++ [itR rows columns i]).map vR) := (elF_ind hel her).mp (hi.mpr hns)
    rw [ht]
    refine ⟨s1, hel, her, fun w => ?_, hind, ?_, ?_⟩
    · rw [u2]
      show Sp (vR (itR rows columns i) :: vecs (s.1.map vB)) w ↔ Sp ((t.2 ++ [itR rows columns i]).map vR) w
      rw [List.map_append]
      refine Iff.trans ?_ ⟨fun z => z.perm List.perm_append_comm, fun z => z.perm List.perm_append_comm⟩
      show Sp (vR (itR rows columns i) :: vecs (s.1.map vB)) w ↔ Sp (vR (itR rows columns i) :: t.2.map vR) w
      rw [Sp.cons_iff, Sp.cons_iff]
      exact ⟨fun ⟨a, z⟩ => ⟨a, (h.sp _).mp z⟩, fun ⟨a, z⟩ => ⟨a, (h.sp _).mpr z⟩⟩
    · rw [hs]
      show (t.2 ++ [_]).length = (s.1 ++ [_]).length
      rw [List.length_append, List.length_append, h.n]
      rfl
    · rw [hs]
      show t.1 ++ [i] = (s.2 ++ [(pre.length : Int)]).map _
      rw [List.map_append, ← h.same]
      congr 1
      show [i] = [order.getD ((pre.length : Int)).toNat (0, [])]
      rw [Int.toNat_natCast, ho, List.getD_eq_getElem?_getD, List.getElem?_append_right (Nat.le_refl _), Nat.sub_self]
      rfl
  · rw [s3 hp]
    have hns : ¬ (elF m (t.2 ++ [itR rows columns i])).isEmpty = true := fun z => hp ((pv_spT h.ix hm).mpr (hi.mp z))
    have ht : lkS rows columns t i = t := by
      unfold lkS
      rw [hlm, hm, if_neg fun z => hns z.2]
    rw [ht]
    exact h
theorem gr_all {rows : List Rw} {columns m : Nat} {order : List Item} (hm : ∀ i ∈ order, (itR rows columns i).length = m ∧ Res (itR rows columns i)) : ∀ (rest pre : List Item) (s : Bas × List Int) (t : List Item × List Rw), order = pre ++ rest → GrI m order s t →
    (rest.foldl (lkS rows columns) t).1 = ((enL pre.length (rest.map (itR rows columns))).foldl idxS s).2.map fun ix => order.getD ix.toNat (0, [])
  | [], pre, s, t, _, h => h.same
  | i :: rest, pre, s, t, ho, h => by
    have him : i ∈ order := by rw [ho]; exact List.mem_append_right _ List.mem_cons_self
    have h2 := gr_step (rows := rows) (columns := columns) h ho (hm i him).1 (hm i him).2
    have := gr_all hm rest (pre ++ [i]) _ _ (by rw [ho, List.append_assoc]; rfl) h2
    rw [List.length_append] at this
    exact this
theorem mnM_res (rs : List Rw) (columns : Nat) : Res (mnM rs columns) := fun a ha => by
  obtain ⟨c, _, rfl⟩ := List.mem_map.mp ha
  exact mnV_res _ _ _
theorem kept_same {rows : List Rw} {columns size : Nat} {items : List Item} (hs : ∀ i ∈ items, i.2.length = size) : lkM rows columns (rkM items) = kepM rows columns items := by
  have hm : ∀ i ∈ rkM items, (itR rows columns i).length = (chs columns size).length ∧ Res (itR rows columns i) := fun i hi => by
    refine ⟨?_, mnM_res _ _⟩
    show (mnM (lotR rows i.2) columns).length = _
    unfold mnM
    rw [List.length_map]
    have : (lotR rows i.2).length = size := by
      show (i.2.map _).length = _
      rw [List.length_map]
      exact hs i (((rkM_spec items).2 i).mp hi)
    rw [this]
  have := gr_all hm (rkM items) [] ([], []) ([], []) rfl ⟨ix_nil _, (fun r hr => nomatch hr), (fun r hr => nomatch hr), fun w => Iff.rfl, trivial, rfl, rfl⟩
  exact this
end K87
end
section
set_option Elab.async false
set_option linter.all false
/-! M21: determinants of lists of vectors: nothing is 0 at all columns but what is dependent. -/
namespace K87M
def at_ (u : Vec) (c : List Int) (j : Nat) : F := u (c.getD j 0).toNat
def dL : List Vec → List Int → F
  | [], _ => 1
  | u :: us, c => sm (fun j => sg j * at_ u c j * dL us (c.eraseIdx j)) (us.length + 1)
theorem at_lt {u : Vec} {c : List Int} {b a : Nat} (h : a < b) : at_ u (c.eraseIdx b) a = at_ u c a := by unfold at_; rw [er_lt h]
theorem at_ge {u : Vec} {c : List Int} {b a : Nat} (h : a < b) : at_ u (c.eraseIdx a) (b - 1) = at_ u c b := by unfold at_; rw [er_ge h]
theorem dL_two (u v : Vec) (us : List Vec) (c : List Int) : dL (u :: v :: us) c = sm (fun j => sm (fun i => sg j * at_ u c j * (sg i * at_ v (c.eraseIdx j) i * dL us ((c.eraseIdx j).eraseIdx i))) (us.length + 1)) (us.length + 2) := by
  show sm (fun j => sg j * at_ u c j * sm _ (us.length + 1)) (us.length + 2) = _
  refine sm_congr fun j _ => ?_
  rw [sm_mul]
theorem dL_swap (u v : Vec) (us : List Vec) (c : List Int) : dL (u :: v :: us) c = - dL (v :: u :: us) c := by
  have e : - dL (v :: u :: us) c = sm (fun j => sm (fun i => (-1) * (sg j * at_ v c j * (sg i * at_ u (c.eraseIdx j) i * dL us ((c.eraseIdx j).eraseIdx i)))) (us.length + 1)) (us.length + 2) := by
    rw [dL_two]
    have : ∀ x : F, - x = (-1) * x := fun x => by grind
    rw [this, ← sm_mul]
    refine sm_congr fun j _ => ?_
    exact (sm_mul (-1) _ _).symm
  rw [e, dL_two]
  refine sum_turn (fun b a h => ?_) (fun b a h => ?_)
  · obtain ⟨b, rfl⟩ : ∃ d, b = d + 1 := ⟨b - 1, by omega⟩
    rw [at_lt h, at_ge h, er_er h, Nat.add_sub_cancel]
    have x1 : sg (b + 1) = - sg b := rfl
    rw [x1]
    grind
  · obtain ⟨b, rfl⟩ : ∃ d, b = d + 1 := ⟨b - 1, by omega⟩
    rw [at_lt h, at_ge h, er_er h, Nat.add_sub_cancel]
    have x1 : sg (b + 1) = - sg b := rfl
    rw [x1]
    grind
theorem neg_self : ∀ x : F, x = - x → x = 0 := by decide +kernel
theorem dL_same (u : Vec) (us : List Vec) (c : List Int) : dL (u :: u :: us) c = 0 := neg_self _ (dL_swap u u us c)
theorem dL_scale {us ws : List Vec} (hl : us.length = ws.length) {a : F} (h : ∀ c, dL us c = a * dL ws c) (u : Vec) (c : List Int) : dL (u :: us) c = a * dL (u :: ws) c := by
  show sm _ (us.length + 1) = a * sm _ (ws.length + 1)
  rw [hl, ← sm_mul]
  refine sm_congr fun j _ => ?_
  rw [h]
  grind
theorem dL_perm {us ws : List Vec} (p : us.Perm ws) : ∃ a : F, (a = 1 ∨ a = -1) ∧ ∀ c, dL us c = a * dL ws c := by
  induction p with
  | nil => exact ⟨1, .inl rfl, fun c => by grind⟩
  | cons x p ih =>
    obtain ⟨a, ha, h⟩ := ih
    exact ⟨a, ha, fun c => dL_scale p.length_eq h x c⟩
  | swap x y l => exact ⟨-1, .inr rfl, fun c => by rw [dL_swap]; grind⟩
  | trans _ _ ih1 ih2 =>
    obtain ⟨a, ha, h1⟩ := ih1
    obtain ⟨b, hb, h2⟩ := ih2
    refine ⟨a * b, ?_, fun c => by rw [h1, h2]; grind⟩
    rcases ha with rfl | rfl <;> rcases hb with rfl | rfl
    · exact .inl (by decide)
    · exact .inr (by decide)
    · exact .inr (by decide)
    · exact .inl (by decide)
theorem dL_perm0 {us ws : List Vec} (p : us.Perm ws) {c : List Int} (h : dL ws c = 0) : dL us c = 0 := by
  obtain ⟨a, _, e⟩ := dL_perm p
  rw [e, h]
  grind
theorem dL_lin (us : List Vec) (c : List Int) (a : F) (u v : Vec) : dL ((fun j => a * u j + v j) :: us) c = a * dL (u :: us) c + dL (v :: us) c := by
  show sm _ _ = a * sm _ _ + sm _ _
  rw [← sm_mul, ← sm_add]
  refine sm_congr fun j _ => ?_
  unfold at_
  grind
theorem dL_zero_row (us : List Vec) (c : List Int) : dL ((fun _ => 0) :: us) c = 0 := by
  have h := dL_lin us c 0 (fun _ => 0) (fun _ => 0)
  have e : (fun j : Nat => (0 : F) * (fun _ => (0 : F)) j + (fun _ => (0 : F)) j) = fun _ => 0 := by funext i; grind
  rw [e] at h
  have h2 := dL_lin us c 1 (fun _ => 0) (fun _ => 0)
  have e2 : (fun j : Nat => (1 : F) * (fun _ => (0 : F)) j + (fun _ => (0 : F)) j) = fun _ => 0 := by funext i; grind
  rw [e2] at h2
  grind
theorem dL_span {us : List Vec} {c : List Int} : ∀ {ws : List Vec} {u : Vec}, Sp ws u → (∀ w ∈ ws, dL (w :: us) c = 0) → dL (u :: us) c = 0
  | [], u, h, _ => by
    have : u = fun _ => 0 := funext fun j => Sp.nil_iff.mp h j
    rw [this]
    exact dL_zero_row us c
  | w :: ws, u, h, hz => by
    obtain ⟨a, ha⟩ := Sp.cons_iff.mp h
    have h1 := dL_span ha fun x hx => hz x (List.mem_cons_of_mem _ hx)
    have h2 := dL_lin us c a w (fun j => u j - a * w j)
    have e : (fun j => a * w j + (u j - a * w j)) = u := by funext j; grind
    rw [e, h1, hz w List.mem_cons_self] at h2
    rw [h2]
    grind
theorem dL_dep : ∀ {us : List Vec}, ¬ Ind us → ∀ c, dL us c = 0
  | [], h, _ => absurd trivial h
  | u :: us, h, c => by
    by_cases hi : Ind us
    · have hs : Sp us u := Classical.byContradiction fun z => h ⟨z, hi⟩
      refine dL_span hs fun w hw => ?_
      obtain ⟨s, t, rfl⟩ := List.append_of_mem hw
      have p : (w :: (s ++ w :: t)).Perm (w :: w :: (s ++ t)) := List.Perm.cons _ List.perm_middle
      exact dL_perm0 p (dL_same _ _ _)
    · have hz := dL_dep hi
      show sm _ _ = 0
      have : sm (fun j => sg j * at_ u c j * dL us (c.eraseIdx j)) (us.length + 1) = sm (fun _ => 0 * 0) (us.length + 1) := sm_congr fun j _ => by rw [hz]; grind
      rw [this, sm_mul]
      grind
/-- a row's multiple, less the first row's: the determinant's multiple -/
def pw (a : F) : Nat → F
  | 0 => 1
  | n + 1 => a * pw a n
theorem mul_ne {a b : F} (ha : a ≠ 0) (hb : b ≠ 0) : a * b ≠ 0 := fun z => by
  obtain ⟨x, hx⟩ := inv_fin a ha
  have e : b = (a * x) * b := by rw [hx]; grind
  have e2 : (a * x) * b = x * (a * b) := by grind
  rw [e2, z] at e
  exact hb (by grind)
theorem pw_ne {a : F} (h : a ≠ 0) : ∀ n, pw a n ≠ 0
  | 0 => by show (1 : F) ≠ 0; decide
  | n + 1 => mul_ne h (pw_ne h n)
def elw (l : Vec) (p : Nat) (v : Vec) : Vec := fun j => l p * v j - v p * l j
theorem dL_clear1 (l : Vec) (p : Nat) (u : Vec) (ws : List Vec) (c : List Int) : dL (l :: elw l p u :: ws) c = l p * dL (l :: u :: ws) c := by
  have e : elw l p u = fun j => (l p) * u j + (fun i => (-(u p)) * l i + (fun _ => (0 : F)) i) j := by
    funext j
    show l p * u j - u p * l j = l p * u j + (-(u p) * l j + 0)
    grind
  have e3 := dL_lin (l :: ws) c (l p) u (fun i => (-(u p)) * l i + (fun _ => (0 : F)) i)
  have e4 := dL_lin (l :: ws) c (-(u p)) l (fun _ => (0 : F))
  have e5 := dL_same l ws c
  have e6 := dL_zero_row (l :: ws) c
  have e7 := dL_swap l u ws c
  have e8 := dL_swap l (elw l p u) ws c
  rw [e8, e7, e, e3, e4, e5, e6]
  generalize dL (u :: l :: ws) c = X
  generalize l p = Y
  generalize u p = Z
  grind
theorem dL_clear (l : Vec) (p : Nat) : ∀ (us : List Vec) (c : List Int), dL (l :: us.map (elw l p)) c = pw (l p) us.length * dL (l :: us) c
  | [], c => by
    show dL [l] c = 1 * dL [l] c
    generalize dL [l] c = X
    grind
  | u :: us, c => by
    have hs : dL (u :: l :: us.map (elw l p)) c = pw (l p) us.length * dL (u :: l :: us) c :=
      dL_scale (by rw [List.length_cons, List.length_cons, List.length_map]) (dL_clear l p us) u c
    have e1 := dL_clear1 l p u (us.map (elw l p)) c
    have e2 := dL_swap l u (us.map (elw l p)) c
    have e3 := dL_swap l u us c
    show dL (l :: elw l p u :: us.map (elw l p)) c = l p * pw (l p) us.length * dL (l :: u :: us) c
    rw [e1, e2, hs, e3]
    generalize dL (u :: l :: us) c = X
    generalize pw (l p) us.length = Y
    generalize l p = Z
    grind
theorem dL_col : ∀ (us : List Vec) (b : Int) (c : List Int), us ≠ [] → (∀ u ∈ us, u b.toNat = 0) → dL us (b :: c) = 0
  | [], _, _, h, _ => absurd rfl h
  | u :: us, b, c, _, hz => by
    show sm _ _ = 0
    have : sm (fun j => sg j * at_ u (b :: c) j * dL us ((b :: c).eraseIdx j)) (us.length + 1) = sm (fun _ => 0 * 0) (us.length + 1) := sm_congr fun j hj => by
      cases j with
      | zero =>
        have : at_ u (b :: c) 0 = 0 := hz u List.mem_cons_self
        rw [this]
        grind
      | succ j =>
        have hne : us ≠ [] := fun z => by rw [z] at hj; exact absurd hj (by simp)
        have : dL us ((b :: c).eraseIdx (j + 1)) = 0 := dL_col us b (c.eraseIdx j) hne fun w hw => hz w (List.mem_cons_of_mem _ hw)
        rw [this]
        grind
    rw [this, sm_mul]
    grind
theorem sm_head (f : Nat → F) : ∀ n, (∀ j < n, f (j + 1) = 0) → sm f (n + 1) = f 0
  | 0, _ => by show (0 : F) + f 0 = f 0; grind
  | n + 1, h => by
    show sm f (n + 1) + f (n + 1) = f 0
    rw [sm_head f n fun j hj => h j (by omega), h n (by omega)]
    grind
theorem sp_supp {m : Nat} : ∀ {us : List Vec} {v : Vec}, Sp us v → (∀ u ∈ us, ∀ j, m ≤ j → u j = 0) → ∀ j, m ≤ j → v j = 0
  | [], v, h, _, j, _ => Sp.nil_iff.mp h j
  | u :: us, v, h, hz, j, hj => by
    obtain ⟨a, ha⟩ := Sp.cons_iff.mp h
    have h1 := sp_supp ha (fun w hw => hz w (List.mem_cons_of_mem _ hw)) j hj
    have h2 := hz u List.mem_cons_self j hj
    have h1 : v j - a * u j = 0 := h1
    rw [h2] at h1
    grind
/-- independent: not 0 at some columns -/
theorem dL_ind {m : Nat} : ∀ (k b : Nat) (us : List Vec), m - b ≤ k → Ind us → (∀ u ∈ us, ∀ j, (j < b ∨ m ≤ j) → u j = 0) →
    ∃ c : List Int, c.length = us.length ∧ c.Pairwise (· < ·) ∧ (∀ x ∈ c, (b : Int) ≤ x ∧ x < m) ∧ dL us c ≠ 0
  | k, b, [], _, _, _ => ⟨[], rfl, .nil, (fun x h => nomatch h), by show (1 : F) ≠ 0; decide⟩
  | 0, b, u :: us, hk, hi, hz => by
    refine absurd ((Sp.z us).ext fun j => ?_) hi.1
    exact (hz u List.mem_cons_self j (by omega)).symm
  | k + 1, b, u :: us, hk, hi, hz => by
    by_cases hb : b < m
    case neg =>
      refine absurd ((Sp.z us).ext fun j => ?_) hi.1
      exact (hz u List.mem_cons_self j (by omega)).symm
    by_cases hc : ∃ w ∈ u :: us, w b ≠ 0
    · obtain ⟨l, hl, hlb⟩ := hc
      obtain ⟨s, t, e⟩ := List.append_of_mem hl
      have p : (u :: us).Perm (l :: (s ++ t)) := by rw [e]; exact List.perm_middle
      have hi2 := hi.perm p
      have hz2 : ∀ w ∈ l :: (s ++ t), ∀ j, (j < b ∨ m ≤ j) → w j = 0 := fun w hw => hz w (p.symm.subset hw)
      have hzl := hz2 l List.mem_cons_self
      have hlin : Lin (elw l b) := ⟨fun v w j => by show l b * (v j + w j) - (v b + w b) * l j = l b * v j - v b * l j + (l b * w j - w b * l j); grind, fun a v j => by show l b * (a * v j) - a * v b * l j = a * (l b * v j - v b * l j); grind⟩
      have hker : ∀ v : Vec, (∀ j, elw l b v j = 0) ↔ Sp [l] v := by
        intro v
        obtain ⟨x, hx⟩ := inv_fin (l b) hlb
        rw [Sp.cons_iff]
        constructor
        · intro hz
          refine ⟨x * v b, Sp.nil_iff.mpr fun j => ?_⟩
          have e : l b * v j - v b * l j = 0 := hz j
          have : v j = x * (l b * v j) := by
            have : x * (l b * v j) = (l b * x) * v j := by grind
            rw [this, hx]
            grind
          show v j - x * v b * l j = 0
          grind
        · rintro ⟨a, ha⟩ j
          show l b * v j - v b * l j = 0
          have e := fun j => Sp.nil_iff.mp ha j
          have e1 : v j - a * l j = 0 := e j
          have e2 : v b - a * l b = 0 := e b
          have x1 : v j = a * l j := by grind
          have x2 : v b = a * l b := by grind
          rw [x1, x2]
          grind
      have hi3 : Ind ((s ++ t).map (elw l b)) := (ind_quot hlin hker ⟨fun z => hlb (Sp.nil_iff.mp z b), trivial⟩).mpr (hi2.perm (List.perm_append_singleton _ _).symm)
      have hz3 : ∀ w ∈ (s ++ t).map (elw l b), ∀ j, (j < b + 1 ∨ m ≤ j) → w j = 0 := by
        intro w hw j hj
        obtain ⟨v, hv, rfl⟩ := List.mem_map.mp hw
        show l b * v j - v b * l j = 0
        by_cases hjb : j = b
        · rw [hjb]; grind
        · have e1 := hz2 v (List.mem_cons_of_mem _ hv) j (by omega)
          have e2 := hzl j (by omega)
          rw [e1, e2]
          grind
      obtain ⟨c, c1, c2, c3, c4⟩ := dL_ind k (b + 1) _ (by omega) hi3 hz3
      refine ⟨(b : Int) :: c, ?_, ?_, ?_, ?_⟩
      · rw [List.length_cons, c1, List.length_map, p.length_eq, List.length_cons]
      · exact List.pairwise_cons.mpr ⟨fun x hx => by have := c3 x hx; omega, c2⟩
      · intro x hx
        rcases List.mem_cons.mp hx with rfl | hx
        · omega
        · have := c3 x hx; omega
      · intro hd
        obtain ⟨a, ha, e1⟩ := dL_perm p.symm
        have h0 : dL (l :: (s ++ t)) ((b : Int) :: c) = 0 := by rw [e1, hd]; grind
        have h1 := dL_clear l b (s ++ t) ((b : Int) :: c)
        rw [h0] at h1
        have h2 : dL (l :: (s ++ t).map (elw l b)) ((b : Int) :: c) = l b * dL ((s ++ t).map (elw l b)) c := by
          show sm (fun j => sg j * at_ l ((b : Int) :: c) j * dL _ (((b : Int) :: c).eraseIdx j)) (_ + 1) = _
          rw [sm_head]
          · show 1 * l ((b : Int)).toNat * _ = _
            rw [Int.toNat_natCast]
            show 1 * l b * dL ((s ++ t).map _) c = l b * dL ((s ++ t).map _) c
            grind
          · intro j hj
            have hne : (s ++ t).map (elw l b) ≠ [] := fun z => by rw [z] at hj; exact absurd hj (Nat.not_lt_zero _)
            have : dL ((s ++ t).map (elw l b)) (((b : Int) :: c).eraseIdx (j + 1)) = 0 := dL_col _ (b : Int) (c.eraseIdx j) hne fun w hw => by
              rw [Int.toNat_natCast]
              exact hz3 w hw b (by omega)
            rw [this]
            grind
        rw [h2] at h1
        exact mul_ne hlb c4 (by rw [h1]; grind)
    · have hz2 : ∀ w ∈ u :: us, ∀ j, (j < b + 1 ∨ m ≤ j) → w j = 0 := by
        intro w hw j hj
        by_cases hjb : j = b
        · rw [hjb]
          exact Classical.byContradiction fun z => hc ⟨w, hw, z⟩
        · exact hz w hw j (by omega)
      obtain ⟨c, c1, c2, c3, c4⟩ := dL_ind k (b + 1) (u :: us) (by omega) hi hz2
      exact ⟨c, c1, c2, fun x hx => by have := c3 x hx; omega, c4⟩
/-- the ask's rows ahead: linear in the values behind -/
def Lam (n : Nat) : List Vec → List Int → (List Int → F) → F
  | [], c, y => y c
  | a :: as, c, y => sm (fun j => sg j * at_ a c j * Lam n as (c.eraseIdx j) y) (as.length + n + 1)
theorem dL_lam (us : List Vec) : ∀ (as : List Vec) (c : List Int), dL (as ++ us) c = Lam us.length as c (dL us)
  | [], c => rfl
  | a :: as, c => by
    show sm (fun j => sg j * at_ a c j * dL (as ++ us) (c.eraseIdx j)) ((as ++ us).length + 1) = sm _ (as.length + us.length + 1)
    rw [List.length_append]
    refine sm_congr fun j _ => ?_
    rw [dL_lam us as]
theorem Lam_lin (n : Nat) (a : F) (y z : List Int → F) : ∀ (as : List Vec) (c : List Int), Lam n as c (fun d => a * y d + z d) = a * Lam n as c y + Lam n as c z
  | [], c => rfl
  | u :: as, c => by
    show sm _ _ = a * sm _ _ + sm _ _
    rw [← sm_mul, ← sm_add]
    refine sm_congr fun j _ => ?_
    rw [Lam_lin n a y z as]
    grind
theorem Lam_zero (n : Nat) (as : List Vec) (c : List Int) : Lam n as c (fun _ => 0) = 0 := by
  have h := Lam_lin n 1 (fun _ => 0) (fun _ => 0) as c
  have e : (fun d : List Int => (1 : F) * (fun _ : List Int => (0 : F)) d + (fun _ : List Int => (0 : F)) d) = fun _ => 0 := by funext d; grind
  rw [e] at h
  grind
theorem Lam_congr {n : Nat} {y z : List Int → F} : ∀ (as : List Vec) (c : List Int), c.length = as.length + n → (∀ d, d.Sublist c → d.length = n → y d = z d) → Lam n as c y = Lam n as c z
  | [], c, hc, h => h c (List.Sublist.refl _) (by simpa using hc)
  | a :: as, c, hc, h => by
    rw [List.length_cons] at hc
    refine sm_congr fun j hj => ?_
    rw [Lam_congr as (c.eraseIdx j) (by rw [List.length_eraseIdx, if_pos (by omega)]; omega) fun d hd hn => h d (hd.trans (List.eraseIdx_sublist _ _)) hn]
theorem lin_sp {f : Vec → F} (hl : ∀ (a : F) (u v : Vec), f (fun j => a * u j + v j) = a * f u + f v) (h0 : f (fun _ => 0) = 0) : ∀ {ws : List Vec} {v : Vec}, Sp ws v → (∀ w ∈ ws, f w = 0) → f v = 0
  | [], v, h, _ => by
    have : v = fun _ => 0 := funext fun j => Sp.nil_iff.mp h j
    rw [this, h0]
  | w :: ws, v, h, hz => by
    obtain ⟨a, ha⟩ := Sp.cons_iff.mp h
    have h1 := lin_sp hl h0 ha fun x hx => hz x (List.mem_cons_of_mem _ hx)
    have h2 := hl a w (fun j => v j - a * w j)
    have e : (fun j => a * w j + (v j - a * w j)) = v := by funext j; grind
    rw [e, h1, hz w List.mem_cons_self] at h2
    rw [h2]
    grind
end K87M
end
section
set_option Elab.async false
set_option linter.all false
/-! M22: the list that is kept answers for all. -/
namespace K87
open K87M
theorem dF_dL (rs : List Rw) : ∀ (n s : Nat) (c : List Int), rs.length = s + n → dF (mA rs) n s c = dL ((rs.drop s).map vR) c
  | 0, s, c, h => by
    rw [List.drop_of_length_le (by omega)]
    rfl
  | n + 1, s, c, h => by
    have hs : s < rs.length := by omega
    rw [List.drop_eq_getElem_cons hs, List.map_cons]
    have hl : ((rs.drop (s + 1)).map vR).length = n := by rw [List.length_map, List.length_drop]; omega
    show sm _ (n + 1) = sm _ (_ + 1)
    rw [hl]
    refine sm_congr fun j _ => ?_
    rw [dF_dL rs n (s + 1) _ (by omega)]
    have : mA rs s (c.getD j 0) = at_ (vR rs[s]) c j := by
      unfold mA at_ vR
      rw [List.getD_eq_getElem?_getD (l := rs), List.getElem?_eq_getElem hs]
      rfl
    rw [this]
theorem mnV_dL (rs : List Rw) {n : Nat} {c : List Int} (hr : rs.length = n) (hc : c.length = n) : toF (mnV rs n c) = dL (rs.map vR) c := by
  rw [mnV_lF rs n c hc, ← (det_same _ _ _ _).1, dF_dL rs n 0 c (by omega), List.drop_zero]
theorem vR_mnM (rs : List Rw) (columns k : Nat) {c : List Int} (h : (chs columns rs.length)[k]? = some c) : vR (mnM rs columns) k = dL (rs.map vR) c := by
  have hm : c ∈ chs columns rs.length := List.mem_of_getElem? h
  rw [← mnV_dL rs rfl (mem_chs.mp hm).1]
  unfold vR mnM
  rw [List.getD_eq_getElem?_getD, List.getElem?_map, h]
  rfl
theorem lotR_app (rows : List Rw) (a b : List Int) : lotR rows (a ++ b) = lotR rows a ++ lotR rows b := List.map_append
theorem lotR_n (rows : List Rw) (lot : List Int) : (lotR rows lot).length = lot.length := List.length_map _
/-- a sum of items' rows fits an ask only where one of them fits it -/
theorem rep {rows : List Rw} {columns n : Nat} (ht : TabOk rows columns) {its : List Item} {i : Item} {ask : List Int} (hi : i.2.length = n ∧ Ins rows i.2) (hs : ∀ x ∈ its, x.2.length = n ∧ Ins rows x.2) (ha : Ins rows ask)
    (hsp : Sp (its.map fun x => vR (itR rows columns x)) (vR (itR rows columns i))) (hf : Ind ((lotR rows (i.2 ++ ask)).map vR)) : ∃ x ∈ its, Ind ((lotR rows (x.2 ++ ask)).map vR) := by
  refine Classical.byContradiction fun hno => ?_
  have turn : ∀ x : Item, ((lotR rows (x.2 ++ ask)).map vR).Perm ((lotR rows ask).map vR ++ (lotR rows x.2).map vR) := fun x => by
    rw [lotR_app, List.map_append]
    exact List.perm_append_comm
  have hz : ∀ x ∈ its, ∀ c, dL ((lotR rows ask).map vR ++ (lotR rows x.2).map vR) c = 0 := fun x hx => dL_dep fun z => hno ⟨x, hx, z.perm (turn x).symm⟩
  have hio : Ind ((lotR rows ask).map vR ++ (lotR rows i.2).map vR) := hf.perm (turn i)
  obtain ⟨c, c1, c2, c3, c4⟩ := dL_ind (m := columns) columns 0 _ (by omega) hio fun u hu j hj => by
    have hj : columns ≤ j := by omega
    rcases List.mem_append.mp hu with hu | hu
    · obtain ⟨r, hr, rfl⟩ := List.mem_map.mp hu
      exact vR_off (by rw [lotR_len ht ha r hr]; exact hj)
    · obtain ⟨r, hr, rfl⟩ := List.mem_map.mp hu
      exact vR_off (by rw [lotR_len ht hi.2 r hr]; exact hj)
  simp only [List.length_append, List.length_map, hi.1] at c1
  have key : ∀ x : Item, x.2.length = n → Lam n ((lotR rows ask).map vR) c (fun d => vR (itR rows columns x) ((chs columns n).idxOf d)) = dL ((lotR rows ask).map vR ++ (lotR rows x.2).map vR) c := fun x hx => by
    have hl : ((lotR rows x.2).map vR).length = n := by rw [List.length_map, lotR_n, hx]
    rw [dL_lam, hl]
    refine Lam_congr _ _ (by rw [List.length_map, lotR_n, c1]) fun d hd hn => ?_
    have hm : d ∈ chs columns n := mem_chs.mpr ⟨hn, c2.sublist hd, fun y hy => by
      have := c3 y (hd.subset hy)
      omega⟩
    have hlt := List.idxOf_lt_length_of_mem hm
    have hr : (lotR rows x.2).length = n := by rw [lotR_n, hx]
    refine vR_mnM (lotR rows x.2) columns _ ?_
    rw [hr, List.getElem?_eq_getElem hlt, List.getElem_idxOf hlt]
  have h0 : Lam n ((lotR rows ask).map vR) c (fun d => vR (itR rows columns i) ((chs columns n).idxOf d)) = 0 := by
    refine lin_sp (f := fun v => Lam n ((lotR rows ask).map vR) c (fun d => v ((chs columns n).idxOf d))) (fun a u v => Lam_lin n a (fun d => u ((chs columns n).idxOf d)) (fun d => v ((chs columns n).idxOf d)) _ c) (Lam_zero n _ c) hsp fun w hw => ?_
    obtain ⟨x, hx, rfl⟩ := List.mem_map.mp hw
    show Lam n _ c _ = 0
    rw [key x (hs x hx).1]
    exact hz x hx c
  rw [key i hi.1] at h0
  exact c4 h0
end K87
end
section
set_option Elab.async false
set_option linter.all false
/-! M23: the kept list by spans of what ranks before. -/
namespace K87
open K87M
open Classical in
noncomputable def keepG {α : Type} (M : α → Vec) : List α → List α → List α
  | _, [] => []
  | pre, i :: rest => if Sp (pre.map M) (M i) then keepG M (pre ++ [i]) rest else i :: keepG M (pre ++ [i]) rest
theorem keepG_pos {α : Type} {M : α → Vec} {i : α} {pre rest : List α} (h : Sp (pre.map M) (M i)) : keepG M pre (i :: rest) = keepG M (pre ++ [i]) rest := by
  rw [keepG, if_pos h]
theorem keepG_neg {α : Type} {M : α → Vec} {i : α} {pre rest : List α} (h : ¬ Sp (pre.map M) (M i)) : keepG M pre (i :: rest) = i :: keepG M (pre ++ [i]) rest := by
  rw [keepG, if_neg h]
theorem keepG_mem {α : Type} {M : α → Vec} : ∀ {rest pre : List α} {x : α}, x ∈ keepG M pre rest → x ∈ rest
  | [], _, _, h => by unfold keepG at h; exact h
  | i :: rest, pre, x, h => by
    unfold keepG at h
    split at h
    · exact List.mem_cons_of_mem _ (keepG_mem h)
    · rcases List.mem_cons.mp h with rfl | h
      · exact List.mem_cons_self
      · exact List.mem_cons_of_mem _ (keepG_mem h)
theorem keepG_sub {α : Type} {M : α → Vec} : ∀ (rest pre : List α), (keepG M pre rest).Sublist rest
  | [], _ => by unfold keepG; exact .slnil
  | i :: rest, pre => by
    unfold keepG
    split
    · exact (keepG_sub rest _).cons _
    · exact (keepG_sub rest _).cons_cons _
/-- what is not kept is a sum of what ranks before -/
theorem keepG_not {α : Type} {M : α → Vec} : ∀ {rest pre s t : List α} {x : α}, rest = s ++ x :: t → x ∉ keepG M pre rest → Sp ((pre ++ s).map M) (M x)
  | _, pre, [], t, x, rfl, h => by
    rw [List.append_nil]
    refine Classical.byContradiction fun z => h ?_
    show x ∈ keepG M pre (x :: t)
    unfold keepG
    rw [if_neg z]
    exact List.mem_cons_self
  | _, pre, i :: s, t, x, rfl, h => by
    have h2 : x ∉ keepG M (pre ++ [i]) (s ++ x :: t) := fun z => h (by
      show x ∈ keepG M pre (i :: (s ++ x :: t))
      unfold keepG
      split
      · exact z
      · exact List.mem_cons_of_mem _ z)
    have := keepG_not (M := M) (rest := s ++ x :: t) (pre := pre ++ [i]) (s := s) (t := t) (x := x) rfl h2
    rwa [List.append_assoc] at this
theorem keepG_congr {α : Type} {M N : α → Vec} : ∀ (rest pre pre' : List α), (∀ s x t, rest = s ++ x :: t → (Sp ((pre ++ s).map M) (M x) ↔ Sp ((pre' ++ s).map N) (N x))) → keepG M pre rest = keepG N pre' rest
  | [], _, _, _ => by unfold keepG; rfl
  | i :: rest, pre, pre', h => by
    have h0 := h [] i rest rfl
    rw [List.append_nil, List.append_nil] at h0
    have hr := keepG_congr (M := M) (N := N) rest (pre ++ [i]) (pre' ++ [i]) fun s x t e => by
      have := h (i :: s) x t (by rw [e]; rfl)
      rw [List.append_assoc, List.append_assoc]
      exact this
    unfold keepG
    rw [hr]
    by_cases c : Sp (pre.map M) (M i)
    · rw [if_pos c, if_pos (h0.mp c)]
    · rw [if_neg c, if_neg fun z => c (h0.mpr z)]
theorem keepG_map {α β : Type} {M : α → Vec} {N : β → Vec} {g : α → β} : ∀ (rest pre : List α), (∀ s x t, rest = s ++ x :: t → (Sp ((pre ++ s).map M) (M x) ↔ Sp (((pre ++ s).map g).map N) (N (g x)))) → keepG N (pre.map g) (rest.map g) = (keepG M pre rest).map g
  | [], _, _ => by unfold keepG; rfl
  | i :: rest, pre, h => by
    have h0 := h [] i rest rfl
    rw [List.append_nil] at h0
    have hr := keepG_map (M := M) (N := N) (g := g) rest (pre ++ [i]) fun s x t e => by
      have := h (i :: s) x t (by rw [e]; rfl)
      rw [List.append_assoc]
      exact this
    rw [List.map_append] at hr
    have hr : keepG N (pre.map g ++ [g i]) (rest.map g) = (keepG M (pre ++ [i]) rest).map g := hr
    rw [List.map_cons]
    by_cases c : Sp (pre.map M) (M i)
    · rw [keepG_pos c, keepG_pos (h0.mp c), hr]
    · rw [keepG_neg c, keepG_neg fun z => c (h0.mpr z), hr]
      rfl
theorem sp_filter {α : Type} {M : α → Vec} {p : α → Bool} {l : List α} {v : Vec} (hz : ∀ x ∈ l, p x = false → ∀ j, M x j = 0) : Sp (l.map M) v ↔ Sp ((l.filter p).map M) v := by
  constructor
  · intro h
    refine h.trans fun u hu => ?_
    obtain ⟨x, hx, rfl⟩ := List.mem_map.mp hu
    cases c : p x with
    | true => exact Sp.mem (List.mem_map.mpr ⟨x, List.mem_filter.mpr ⟨hx, c⟩, rfl⟩)
    | false => exact (Sp.z _).ext fun j => (hz x hx c j).symm
  · intro h
    refine h.trans fun u hu => ?_
    obtain ⟨x, hx, rfl⟩ := List.mem_map.mp hu
    exact Sp.mem (List.mem_map.mpr ⟨x, (List.mem_filter.mp hx).1, rfl⟩)
/-- what is 0 counts for nothing -/
theorem keepG_filter {α : Type} {M : α → Vec} {p : α → Bool} : ∀ (rest pre : List α), (∀ x ∈ pre ++ rest, p x = false → ∀ j, M x j = 0) → keepG M pre rest = keepG M (pre.filter p) (rest.filter p)
  | [], pre, _ => by
    have e : ([] : List α).filter p = [] := rfl
    rw [e]
    unfold keepG
    rfl
  | i :: rest, pre, hz => by
    have hr := keepG_filter (M := M) (p := p) rest (pre ++ [i]) fun x hx => hz x (by rwa [List.append_assoc] at hx)
    have hs := sp_filter (M := M) (p := p) (l := pre) (v := M i) fun x hx => hz x (List.mem_append_left _ hx)
    have e4 : ([] : List α).filter p = [] := rfl
    cases c : p i with
    | true =>
      rw [List.filter_append, List.filter_cons_of_pos c, e4] at hr
      rw [List.filter_cons_of_pos c]
      by_cases d : Sp (pre.map M) (M i)
      · rw [keepG_pos d, keepG_pos (hs.mp d), hr]
      · rw [keepG_neg d, keepG_neg fun z => d (hs.mpr z), hr]
    | false =>
      rw [List.filter_append, List.filter_cons_of_neg (by simp [c]), e4, List.append_nil] at hr
      rw [List.filter_cons_of_neg (by simp [c])]
      have d : Sp (pre.map M) (M i) := (Sp.z _).ext fun j => (hz i (List.mem_append_right _ List.mem_cons_self) c j).symm
      rw [keepG_pos d, hr]
/-! ### the program's list -/
theorem gr_keep {rows : List Rw} {columns m : Nat} {order : List Item} (hm : ∀ i ∈ order, (itR rows columns i).length = m ∧ Res (itR rows columns i)) : ∀ (rest pre : List Item) (s : Bas × List Int) (t : List Item × List Rw), order = pre ++ rest → GrI m order s t →
    (∀ w, Sp (t.2.map vR) w ↔ Sp (pre.map fun x => vR (itR rows columns x)) w) → (rest.foldl (lkS rows columns) t).1 = t.1 ++ keepG (fun x => vR (itR rows columns x)) pre rest
  | [], pre, s, t, _, h, _ => by
    unfold keepG
    exact (List.append_nil _).symm
  | i :: rest, pre, s, t, ho, h, hp => by
    have him : i ∈ order := by rw [ho]; exact List.mem_append_right _ List.mem_cons_self
    have h2 := gr_step (rows := rows) (columns := columns) h ho (hm i him).1 (hm i him).2
    obtain ⟨s1, s2, s3⟩ := ix_step (q := (pre.length, itR rows columns i)) h.ix (hm i him).1
    have hsp : ∀ w, Sp ((lkS rows columns t i).2.map vR) w ↔ Sp ((pre ++ [i]).map fun x => vR (itR rows columns x)) w := by
      intro w
      rw [← h2.sp]
      have tail : Sp ((pre ++ [i]).map fun x => vR (itR rows columns x)) w ↔ Sp (vR (itR rows columns i) :: vecs (s.1.map vB)) w := by
        rw [List.map_append]
        refine Iff.trans ⟨fun z => z.perm List.perm_append_comm, fun z => z.perm List.perm_append_comm⟩ ?_
        show Sp (vR (itR rows columns i) :: pre.map fun x => vR (itR rows columns x)) w ↔ _
        rw [Sp.cons_iff, Sp.cons_iff]
        exact ⟨fun ⟨a, z⟩ => ⟨a, (h.sp _).mpr ((hp _).mpr z)⟩, fun ⟨a, z⟩ => ⟨a, (hp _).mp ((h.sp _).mp z)⟩⟩
      rw [tail]
      by_cases hpv : 0 ≤ pvM (redM (itR rows columns i) s.1)
      · exact (s2 hpv).2 w
      · have hs : Sp (vecs (s.1.map vB)) (vR (itR rows columns i)) := Classical.byContradiction fun z => hpv ((pv_spT h.ix (hm i him).1).mpr z)
        rw [s3 hpv]
        refine ⟨fun z => z.weak, fun z => z.trans fun u hu => ?_⟩
        rcases List.mem_cons.mp hu with rfl | hu
        · exact hs
        · exact Sp.mem hu
    have ih := gr_keep hm rest (pre ++ [i]) _ _ (by rw [ho, List.append_assoc]; rfl) h2 hsp
    show (rest.foldl (lkS rows columns) (lkS rows columns t i)).1 = _
    rw [ih]
    have hlm : lmM rows i.2 columns = itR rows columns i := lm_mn rows i.2 columns
    by_cases d : Sp (pre.map fun x => vR (itR rows columns x)) (vR (itR rows columns i))
    · rw [keepG_pos (M := fun x => vR (itR rows columns x)) d]
      have hpv : ¬ 0 ≤ pvM (redM (itR rows columns i) s.1) := fun z => (pv_spT h.ix (hm i him).1).mp z ((h.sp _).mpr ((hp _).mpr d))
      have e3 : (lkS rows columns t i).1 = t.1 := by
        have := h2.same
        rw [s3 hpv] at this
        rw [this, h.same]
      rw [e3]
    · rw [keepG_neg (M := fun x => vR (itR rows columns x)) d]
      have hpv : 0 ≤ pvM (redM (itR rows columns i) s.1) := (pv_spT h.ix (hm i him).1).mpr fun z => d ((hp _).mp ((h.sp _).mp z))
      have e3 : (lkS rows columns t i).1 = t.1 ++ [i] := by
        have := h2.same
        rw [this, h.same]
        have hs : idxS s (pre.length, itR rows columns i) = (s.1 ++ [(pvM (redM (itR rows columns i) s.1), nrm (pvM (redM (itR rows columns i) s.1)) (redM (itR rows columns i) s.1))], s.2 ++ [(pre.length : Int)]) := by
          unfold idxS
          rw [if_pos hpv]
        rw [hs]
        show (s.2 ++ [(pre.length : Int)]).map _ = _
        rw [List.map_append]
        congr 1
        show [order.getD ((pre.length : Int)).toNat (0, [])] = [i]
        rw [Int.toNat_natCast, ho, List.getD_eq_getElem?_getD, List.getElem?_append_right (Nat.le_refl _), Nat.sub_self]
        rfl
      rw [e3, List.append_assoc]
      rfl
theorem kep_keep {rows : List Rw} {columns size : Nat} {items : List Item} (hs : ∀ i ∈ items, i.2.length = size) : kepM rows columns items = keepG (fun x => vR (itR rows columns x)) [] (rkM items) := by
  have hm : ∀ i ∈ rkM items, (itR rows columns i).length = (chs columns size).length ∧ Res (itR rows columns i) := fun i hi => by
    refine ⟨?_, mnM_res _ _⟩
    show (mnM (lotR rows i.2) columns).length = _
    unfold mnM
    rw [List.length_map]
    have : (lotR rows i.2).length = size := by
      show (i.2.map _).length = _
      rw [List.length_map]
      exact hs i (((rkM_spec items).2 i).mp hi)
    rw [this]
  rw [← kept_same hs]
  have := gr_keep hm (rkM items) [] ([], []) ([], []) rfl ⟨ix_nil _, (fun r hr => nomatch hr), (fun r hr => nomatch hr), fun w => Iff.rfl, trivial, rfl, rfl⟩ fun w => Iff.rfl
  exact this
end K87
end
section
set_option Elab.async false
set_option linter.all false
/-! M24: one thing more in each lot: the minors behind contracting by it. -/
namespace K87M
theorem er_perm {α : Type} {d : α} : ∀ {l : List α} {j : Nat}, j < l.length → l.Perm (l.getD j d :: l.eraseIdx j)
  | a :: l, 0, _ => List.Perm.refl _
  | a :: l, j + 1, h => by
    have h : j < l.length := by simpa using h
    show (a :: l).Perm (l.getD j d :: a :: l.eraseIdx j)
    exact ((er_perm h).cons a).trans (List.Perm.swap _ _ _)
theorem mem_er {c : List Int} {b : Int} {j : Nat} (hb : b ∈ c) (hj : c.getD j 0 ≠ b) : b ∈ c.eraseIdx j := by
  obtain ⟨k, hk, e⟩ := List.mem_iff_getElem.mp hb
  refine List.mem_eraseIdx_iff_getElem?.mpr ⟨k, fun z => hj ?_, by rw [List.getElem?_eq_getElem hk, e]⟩
  rw [← z, List.getD_eq_getElem?_getD, List.getElem?_eq_getElem hk]
  exact e
theorem sm_zero {f : Nat → F} {n : Nat} (h : ∀ j < n, f j = 0) : sm f n = 0 := by
  have : sm f n = sm (fun _ => 0 * 0) n := sm_congr fun j hj => by rw [h j hj]; grind
  rw [this, sm_mul]
  grind
/-- a column of zeros -/
theorem dL_col2 : ∀ (us : List Vec) (b : Int) (c : List Int), c.length = us.length → b ∈ c → (∀ u ∈ us, u b.toNat = 0) → dL us c = 0
  | [], b, c, hl, hb, _ => by
    rw [List.length_eq_zero_iff.mp hl] at hb
    cases hb
  | u :: us, b, c, hl, hb, hz => by
    rw [List.length_cons] at hl
    refine sm_zero fun j hj => ?_
    by_cases e : c.getD j 0 = b
    · have : at_ u c j = 0 := by unfold at_; rw [e]; exact hz u List.mem_cons_self
      rw [this]
      grind
    · rw [dL_col2 us b (c.eraseIdx j) (by rw [List.length_eraseIdx, if_pos (by omega)]; omega) (mem_er hb e) fun w hw => hz w (List.mem_cons_of_mem _ hw)]
      grind
/-- rows that are multiples at other columns -/
theorem dL_rel {α : Type} {f g : α → Vec} {β : F} {h : Int → Int} (hfg : ∀ v (x : Int), 0 ≤ x → f v x.toNat = β * g v (h x).toNat) : ∀ (us : List α) (c : List Int), c.length = us.length → (∀ x ∈ c, 0 ≤ x) → dL (us.map f) c = pw β us.length * dL (us.map g) (c.map h)
  | [], c, _, _ => by
    show (1 : F) = 1 * 1
    grind
  | u :: us, c, hl, h0 => by
    rw [List.length_cons] at hl
    show sm (fun j => sg j * at_ (f u) c j * dL (us.map f) (c.eraseIdx j)) ((us.map f).length + 1) = β * pw β us.length * sm (fun j => sg j * at_ (g u) (c.map h) j * dL (us.map g) ((c.map h).eraseIdx j)) ((us.map g).length + 1)
    rw [List.length_map, List.length_map, ← sm_mul]
    refine sm_congr fun j hj => ?_
    have hj : j < c.length := by omega
    have e1 : at_ (f u) c j = β * at_ (g u) (c.map h) j := by
      unfold at_
      rw [List.getD_eq_getElem?_getD, List.getElem?_eq_getElem hj, List.getD_eq_getElem?_getD, List.getElem?_map, List.getElem?_eq_getElem hj]
      exact hfg u _ (h0 _ (List.getElem_mem hj))
    have e2 : (c.map h).eraseIdx j = (c.eraseIdx j).map h := K87.er_map h c j
    rw [e1, e2, dL_rel hfg us (c.eraseIdx j) (by rw [List.length_eraseIdx, if_pos (by omega)]; omega) fun x hx => h0 x ((List.eraseIdx_sublist _ _).subset hx)]
    grind
theorem inv_ne {a : F} (h : a ≠ 0) : ∃ b : F, b ≠ 0 ∧ a * b = 1 := by
  obtain ⟨b, hb⟩ := inv_fin a h
  refine ⟨b, fun z => ?_, hb⟩
  rw [z] at hb
  have : a * 0 = 0 := by grind
  rw [this] at hb
  exact absurd hb (by decide)
/-- families whose members answer each other linearly, but for a factor -/
theorem sp_fam {α : Type} {a b : α → Vec} {f : Vec → Vec} (hf : Lin f) {S : List α} {x : α} (e : ∀ y, y = x ∨ y ∈ S → ∃ s : F, s ≠ 0 ∧ ∀ j, f (a y) j = s * b y j) (h : Sp (S.map a) (a x)) : Sp (S.map b) (b x) := by
  have h1 : Sp ((S.map a).map f) (f (a x)) := (sp_map hf).mpr ⟨_, h, fun _ => rfl⟩
  have h2 : Sp (S.map b) (f (a x)) := h1.trans fun u hu => by
    obtain ⟨v, hv, rfl⟩ := List.mem_map.mp hu
    obtain ⟨y, hy, rfl⟩ := List.mem_map.mp hv
    obtain ⟨s, _, es⟩ := e y (.inr hy)
    have hm : Sp (S.map b) (b y) := Sp.mem (List.mem_map.mpr ⟨y, hy, rfl⟩)
    exact (hm.smul s).ext fun j => (es j).symm
  obtain ⟨s, hs, es⟩ := e x (.inl rfl)
  obtain ⟨t, _, ht⟩ := inv_ne hs
  refine (h2.smul t).ext fun j => ?_
  rw [es]
  have : t * (s * b x j) = (s * t) * b x j := by grind
  rw [this, ht]
  grind
/-- beside one column -/
def skI (p : Nat) (x : Int) : Int := if x < p then x else x + 1
def bkI (p : Nat) (x : Int) : Int := if x < p then x else x - 1
theorem sk_bk {p : Nat} {x : Int} (h : x ≠ p) : skI p (bkI p x) = x := by
  unfold skI bkI
  by_cases c : x < p
  · rw [if_pos c, if_pos c]
  · rw [if_neg c, if_neg (by omega)]
    omega
theorem bk_sk {p : Nat} (x : Int) : bkI p (skI p x) = x := by
  unfold skI bkI
  by_cases c : x < p
  · rw [if_pos c, if_pos c]
  · rw [if_neg c, if_neg (by omega)]
    omega
theorem sk_ne {p : Nat} (x : Int) : skI p x ≠ p := by
  unfold skI
  by_cases c : x < p
  · rw [if_pos c]; omega
  · rw [if_neg c]; omega
theorem sk_lt {p : Nat} {x y : Int} (h : x < y) : skI p x < skI p y := by
  unfold skI
  by_cases c : x < p
  · rw [if_pos c]; split <;> omega
  · rw [if_neg c, if_neg (by omega)]; omega
theorem bk_lt {p : Nat} {x y : Int} (h : x < y) (hx : x ≠ p) (hy : y ≠ p) : bkI p x < bkI p y := by
  unfold bkI
  by_cases c : x < p
  · rw [if_pos c]; split <;> omega
  · rw [if_neg c, if_neg (by omega)]; omega
theorem sg_sq : ∀ j, sg j * sg j = 1
  | 0 => by show (1 : F) * 1 = 1; decide
  | j + 1 => by
    show (- sg j) * (- sg j) = 1
    rw [← sg_sq j]
    grind
theorem elw_at (u : Vec) (p : Nat) (v : Vec) : elw u p v p = 0 := by
  show u p * v p - v p * u p = 0
  grind
/-- the determinant with the row ahead, from those without it -/
theorem dL_up {u : Vec} {p : Nat} (vs : List Vec) (c : List Int) : pw (u p) vs.length * dL (u :: vs) c = sm (fun j => sg j * at_ u c j * dL (vs.map (elw u p)) (c.eraseIdx j)) (vs.length + 1) := by
  rw [← dL_clear]
  show sm _ ((vs.map (elw u p)).length + 1) = _
  rw [List.length_map]
/-- .. at columns that hold the lead -/
theorem dL_at {u : Vec} {p j0 : Nat} {vs : List Vec} {c : List Int} (hl : c.length = vs.length + 1) (hn : c.Nodup) (hj : j0 < c.length) (hp : c.getD j0 0 = p) : pw (u p) vs.length * dL (u :: vs) c = sg j0 * u p * dL (vs.map (elw u p)) (c.eraseIdx j0) := by
  rw [dL_up]
  have key : ∀ j < vs.length + 1, sg j * at_ u c j * dL (vs.map (elw u p)) (c.eraseIdx j) = if j = j0 then sg j0 * u p * dL (vs.map (elw u p)) (c.eraseIdx j0) else 0 := by
    intro j hj1
    by_cases e : j = j0
    · subst e
      rw [if_pos rfl]
      have : at_ u c j = u p := by unfold at_; rw [hp]; rfl
      rw [this]
    · rw [if_neg e]
      have hpm : (p : Int) ∈ c := by
        rw [← hp, List.getD_eq_getElem?_getD, List.getElem?_eq_getElem hj]
        exact List.getElem_mem hj
      have hne : c.getD j 0 ≠ p := fun z => by
        rw [← hp, List.getD_eq_getElem?_getD, List.getD_eq_getElem?_getD, List.getElem?_eq_getElem hj, List.getElem?_eq_getElem (by omega)] at z
        exact e ((List.getElem_inj hn).mp z)
      rw [dL_col2 (vs.map (elw u p)) p (c.eraseIdx j) (by rw [List.length_eraseIdx, if_pos (by omega), List.length_map]; omega) (mem_er hpm hne) fun w hw => by
        obtain ⟨v, _, rfl⟩ := List.mem_map.mp hw
        exact elw_at u p v]
      grind
  rw [sm_congr key]
  have one : ∀ (n : Nat) (X : F), j0 < n → sm (fun j => if j = j0 then X else 0) n = X := by
    intro n
    induction n with
    | zero => intro X h; exact absurd h (Nat.not_lt_zero _)
    | succ n ih =>
      intro X h
      show sm (fun j => if j = j0 then X else 0) n + (if n = j0 then X else 0) = X
      by_cases e : n = j0
      · rw [if_pos e]
        have : sm (fun j => if j = j0 then X else 0) n = 0 := sm_zero fun j hj => by rw [if_neg (by omega)]
        rw [this]
        grind
      · rw [if_neg e, ih X (by omega)]
        grind
  exact one _ _ (by omega)
end K87M
end
section
set_option Elab.async false
set_option linter.all false
/-! M25: the kept list over a contraction by one thing, grown by it, is the kept list of the grown items. -/
namespace K87
open K87M
/-! ### one thing's basis -/
section
variable {rows : List Rw} {columns : Nat} {t : Int}
theorem one_basis (ht : TabOk rows columns) (hg : RfGo [] (lotR rows [t])) (hi : Ins rows [t]) : ∃ p : Nat, p < columns ∧ pvM (rows.getD t.toNat []) = p ∧ vR (rows.getD t.toNat []) p ≠ 0 ∧ lotB rows [t] = [((p : Int), nrm p (rows.getD t.toNat []))] := by
  have hr := rows_res ht t.toNat
  have hl : (rows.getD t.toNat []).length = columns := by
    have := hi t List.mem_cons_self
    exact lotR_len ht hi _ (List.mem_map.mpr ⟨t, List.mem_cons_self, rfl⟩)
  have he : redM (rows.getD t.toNat []) [] = rows.getD t.toNat [] := redM_res hr
  have h0 : 0 ≤ pvM (redM (rows.getD t.toNat []) []) := hg.1
  rw [he] at h0
  rcases pv_lead hr with ⟨e, _⟩ | ⟨p, e1, e2, e3, _⟩
  · rw [e] at h0; exact absurd h0 (by decide)
  · refine ⟨p, by omega, e1, e3, ?_⟩
    show [] ++ [frs [] (rows.getD t.toNat [])] = _
    unfold frs
    rw [he, e1]
    rfl
theorem io_one {B : Bas} {m p : Nat} {b : Rw} (hb : BasOk m B) (e : B = [((p : Int), b)]) (q : Nat) : ioF B m q = if q < p then q else q + 1 := by
  have O := ioF_oth hb
  have hp : B.map vB = [(p, vR b)] := by rw [e]; rfl
  refine mono_uniq (k := fun q => if q < p then q else q + 1) O.mono (fun q r h => ?_) (fun q => ?_) (fun q => ?_) q
  · show (if q < p then q else q + 1) < (if r < p then r else r + 1)
    split <;> split <;> omega
  · have hn : ioF B m q ≠ p := O.no q (p, vR b) (by rw [hp]; exact List.mem_cons_self)
    by_cases c : ioF B m q < p
    · exact ⟨ioF B m q, by show (if _ < p then _ else _) = _; rw [if_pos c]⟩
    · exact ⟨ioF B m q - 1, by show (if _ < p then _ else _) = _; rw [if_neg (by omega)]; omega⟩
  · refine O.all _ fun b' hb' => ?_
    rw [hp, List.mem_singleton] at hb'
    rw [hb']
    show (if q < p then q else q + 1) ≠ p
    split <;> omega
end
theorem pw_one {a b : F} (h : a * b = 1) : ∀ n, pw a n * pw b n = 1
  | 0 => by show (1 : F) * 1 = 1; decide
  | n + 1 => by
    show a * pw a n * (b * pw b n) = 1
    have : a * pw a n * (b * pw b n) = (a * b) * (pw a n * pw b n) := by grind
    rw [this, h, pw_one h n]
    decide
/-! ### sorted -/
def srtM (l : List Int) : List Int := l.mergeSort fun a b => decide (a ≤ b)
theorem srtM_perm (l : List Int) : (srtM l).Perm l := List.mergeSort_perm _ _
theorem srtM_le (l : List Int) : (srtM l).Pairwise (· ≤ ·) := (List.pairwise_mergeSort (le := fun a b : Int => decide (a ≤ b)) (fun a b c h1 h2 => by simp at h1 h2 ⊢; omega) (fun a b => by simp; omega) l).imp fun h => by simpa using h
theorem srtM_eq {l m : List Int} (h : m.Perm l) (hs : m.Pairwise (· ≤ ·)) : m = srtM l :=
  List.Perm.eq_of_pairwise (le := fun a b : Int => a ≤ b) (fun a b _ _ h1 h2 => by omega) hs (srtM_le l) (h.trans (srtM_perm l).symm)
/-! ### the two families -/
def gro (worth t : Int) (i : Item) : Item := (i.1 + worth, srtM (i.2 ++ [t]))
open Classical in
noncomputable def upF (u : Vec) (p m n : Nat) (y : Vec) : Vec := fun k => match (chs m (n + 1))[k]? with
  | none => 0
  | some c => sm (fun j => sg j * at_ u c j * (if (p : Int) ∈ c.eraseIdx j then 0 else y ((chs ((m - 1 : Nat) : Int) n).idxOf ((c.eraseIdx j).map (bkI p))))) (n + 1)
theorem upF_none {u : Vec} {p m n : Nat} {y : Vec} {k : Nat} (h : (chs m (n + 1))[k]? = none) : upF u p m n y k = 0 := by
  unfold upF
  rw [h]
open Classical in
theorem upF_some {u : Vec} {p m n : Nat} {y : Vec} {k : Nat} {c : List Int} (h : (chs m (n + 1))[k]? = some c) : upF u p m n y k = sm (fun j => sg j * at_ u c j * (if (p : Int) ∈ c.eraseIdx j then 0 else y ((chs ((m - 1 : Nat) : Int) n).idxOf ((c.eraseIdx j).map (bkI p))))) (n + 1) := by
  unfold upF
  rw [h]
theorem upF_lin (u : Vec) (p m n : Nat) : Lin (upF u p m n) := by
  constructor
  · intro v w k
    unfold upF
    cases (chs m (n + 1))[k]? with
    | none => show (0 : F) = 0 + 0; decide
    | some c =>
      show sm _ _ = sm _ _ + sm _ _
      rw [← sm_add]
      refine sm_congr fun j _ => ?_
      split <;> grind
  · intro a v k
    unfold upF
    cases (chs m (n + 1))[k]? with
    | none => show (0 : F) = a * 0; grind
    | some c =>
      show sm _ _ = a * sm _ _
      rw [← sm_mul]
      refine sm_congr fun j _ => ?_
      split <;> grind
def dnF (p m n : Nat) (z : Vec) : Vec := fun k => match (chs ((m - 1 : Nat) : Int) n)[k]? with
  | none => 0
  | some d => sg ((srtM ((p : Int) :: d.map (skI p))).idxOf (p : Int)) * z ((chs m (n + 1)).idxOf (srtM ((p : Int) :: d.map (skI p))))
theorem dnF_none {p m n : Nat} {z : Vec} {k : Nat} (h : (chs ((m - 1 : Nat) : Int) n)[k]? = none) : dnF p m n z k = 0 := by
  unfold dnF
  rw [h]
theorem dnF_some {p m n : Nat} {z : Vec} {k : Nat} {d : List Int} (h : (chs ((m - 1 : Nat) : Int) n)[k]? = some d) : dnF p m n z k = sg ((srtM ((p : Int) :: d.map (skI p))).idxOf (p : Int)) * z ((chs m (n + 1)).idxOf (srtM ((p : Int) :: d.map (skI p)))) := by
  unfold dnF
  rw [h]
theorem dnF_lin (p m n : Nat) : Lin (dnF p m n) := by
  constructor
  · intro v w k
    unfold dnF
    cases (chs ((m - 1 : Nat) : Int) n)[k]? with
    | none => show (0 : F) = 0 + 0; decide
    | some c => show sg _ * (_ + _) = sg _ * _ + sg _ * _; grind
  · intro a v k
    unfold dnF
    cases (chs ((m - 1 : Nat) : Int) n)[k]? with
    | none => show (0 : F) = a * 0; grind
    | some c => show sg _ * (a * _) = a * (sg _ * _); grind
theorem asc_nodup {l : List Int} (h : Asc l) : l.Nodup := h.imp fun h => by omega
theorem asc_of {l : List Int} (h : l.Pairwise (· ≤ ·)) (n : l.Nodup) : Asc l := List.Pairwise.imp₂ (fun a b h1 h2 => by omega) h n
theorem asc_eq {l m : List Int} (h : l.Perm m) (hl : Asc l) (hm : Asc m) : l = m :=
  List.Perm.eq_of_pairwise (le := fun a b : Int => a < b) (fun a b _ _ h1 h2 => by omega) hl hm h
theorem vR_mnM_off (rs : List Rw) (columns k : Nat) (h : (chs columns rs.length)[k]? = none) : vR (mnM rs columns) k = 0 := by
  refine vR_off ?_
  unfold mnM
  rw [List.length_map]
  exact List.getElem?_eq_none_iff.mp h
theorem fam {rows : List Rw} {columns n : Nat} {t worth : Int} (ht : TabOk rows columns) (hi : Ins rows [t]) (hg : RfGo [] (lotR rows [t])) {S : List Item} {x : Item} (hS : ∀ y, y = x ∨ y ∈ S → y.2.length = n ∧ Ins rows y.2) :
    Sp (S.map fun y => vR (itR (conM rows columns [t]) (conC rows columns [t]) y)) (vR (itR (conM rows columns [t]) (conC rows columns [t]) x)) ↔ Sp (S.map fun y => vR (itR rows columns (gro worth t y))) (vR (itR rows columns (gro worth t x))) := by
  obtain ⟨p, hp, _, hup, hB⟩ := one_basis ht hg hi
  obtain ⟨b1, _⟩ := lotB_ok ht hi hg
  have hcc : conC rows columns [t] = columns - 1 := by
    have := conC_eq ht hi hg
    simp at this
    omega
  have hgp : 0 ≤ (rows.getD t.toNat []).getD p 0 ∧ (rows.getD t.toNat []).getD p 0 < 97 := res_get (rows_res ht t.toNat) p
  have hne : (rows.getD t.toNat []).getD p 0 ≠ 0 := fun z => hup ((vR_zero (rows_res ht t.toNat) p).mpr z)
  have hinv : vR (rows.getD t.toNat []) p * toF (invM ((rows.getD t.toNat []).getD p 0)) = 1 := inv_toF hgp.1 hgp.2 hne
  have hcon : ∀ (v : Vec) (z : Int), 0 ≤ z → con ((lotB rows [t]).map vB) (ioF (lotB rows [t]) columns) v z.toNat = toF (invM ((rows.getD t.toNat []).getD p 0)) * elw (vR (rows.getD t.toNat [])) p v (skI p z).toNat := by
    intro v z hz
    show red v ((lotB rows [t]).map vB) (ioF (lotB rows [t]) columns z.toNat) = _
    rw [io_one b1.ok hB]
    have e1 : (if z.toNat < p then z.toNat else z.toNat + 1) = (skI p z).toNat := by
      unfold skI
      split <;> split <;> omega
    rw [e1, hB]
    show v (skI p z).toNat - v p * vR (nrm p (rows.getD t.toNat [])) (skI p z).toNat = _
    rw [vR_nrm, Int.toNat_natCast]
    show _ = _ * (vR (rows.getD t.toNat []) p * v (skI p z).toNat - v p * vR (rows.getD t.toNat []) (skI p z).toNat)
    have : toF (invM ((rows.getD t.toNat []).getD p 0)) * (vR (rows.getD t.toNat []) p * v (skI p z).toNat - v p * vR (rows.getD t.toNat []) (skI p z).toNat) = (vR (rows.getD t.toNat []) p * toF (invM ((rows.getD t.toNat []).getD p 0))) * v (skI p z).toNat - v p * (toF (invM ((rows.getD t.toNat []).getD p 0)) * vR (rows.getD t.toNat []) (skI p z).toNat) := by grind
    rw [this, hinv]
    grind
  generalize toF (invM ((rows.getD t.toNat []).getD p 0)) = β at hinv hcon
  have hlots : ∀ y : Item, y.2.length = n → Ins rows y.2 → (lotR (conM rows columns [t]) y.2).map vR = ((lotR rows y.2).map vR).map (con ((lotB rows [t]).map vB) (ioF (lotB rows [t]) columns)) := fun y _ hy => lotR_conV ht hi hg hy
  have hlow : ∀ y : Item, y.2.length = n → Ins rows y.2 → ∀ d : List Int, d.length = n → (∀ z ∈ d, 0 ≤ z) → dL ((lotR (conM rows columns [t]) y.2).map vR) d = pw β n * dL (((lotR rows y.2).map vR).map (elw (vR (rows.getD t.toNat [])) p)) (d.map (skI p)) := fun y hy1 hy2 d hd h0 => by
    have hl : ((lotR rows y.2).map vR).length = n := by rw [List.length_map, lotR_n, hy1]
    rw [hlots y hy1 hy2, dL_rel hcon _ d (by rw [hl, hd]) h0, hl]
  have hhigh : ∀ y : Item, ∃ ε : F, (ε = 1 ∨ ε = -1) ∧ ∀ c, dL (vR (rows.getD t.toNat []) :: (lotR rows y.2).map vR) c = ε * dL ((lotR rows (gro worth t y).2).map vR) c := fun y => by
    refine dL_perm ?_
    have pm : (t :: y.2).Perm (srtM (y.2 ++ [t])) := (List.perm_append_singleton t y.2).symm.trans (srtM_perm _).symm
    have := (pm.map fun x => rows.getD x.toNat []).map vR
    exact this
  generalize hu : vR (rows.getD t.toNat []) = u at *
  have hM1 : ∀ y : Item, y.2.length = n → Ins rows y.2 → ∀ k d, (chs ((columns - 1 : Nat) : Int) n)[k]? = some d → vR (itR (conM rows columns [t]) (conC rows columns [t]) y) k = pw β n * dL (((lotR rows y.2).map vR).map (elw u p)) (d.map (skI p)) := fun y hy1 hy2 k d hk => by
    have hd := mem_chs.mp (List.mem_of_getElem? hk)
    have hl : (lotR (conM rows columns [t]) y.2).length = n := by rw [lotR_n, hy1]
    rw [← hlow y hy1 hy2 d hd.1 fun z hz => (hd.2.2 z hz).1]
    refine vR_mnM _ _ k ?_
    rw [hl, hcc]
    exact hk
  have hM1o : ∀ y : Item, y.2.length = n → ∀ k, (chs ((columns - 1 : Nat) : Int) n)[k]? = none → vR (itR (conM rows columns [t]) (conC rows columns [t]) y) k = 0 := fun y hy1 k hk => by
    have hl : (lotR (conM rows columns [t]) y.2).length = n := by rw [lotR_n, hy1]
    refine vR_mnM_off _ _ k ?_
    rw [hl, hcc]
    exact hk
  have hjl : ∀ y : Item, y.2.length = n → (lotR rows (gro worth t y).2).length = n + 1 := fun y hy => by
    rw [lotR_n]
    show (srtM (y.2 ++ [t])).length = n + 1
    rw [(srtM_perm _).length_eq, List.length_append, hy]
    rfl
  have hM2 : ∀ y : Item, y.2.length = n → ∀ k c, (chs columns (n + 1))[k]? = some c → vR (itR rows columns (gro worth t y)) k = dL ((lotR rows (gro worth t y).2).map vR) c := fun y hy k c hk => by
    refine vR_mnM _ _ k ?_
    rw [hjl y hy]
    exact hk
  have hM2o : ∀ y : Item, y.2.length = n → ∀ k, (chs columns (n + 1))[k]? = none → vR (itR rows columns (gro worth t y)) k = 0 := fun y hy k hk => by
    refine vR_mnM_off _ _ k ?_
    rw [hjl y hy]
    exact hk
  have hβ : β ≠ 0 := fun z => by
    rw [z] at hinv
    have : u p * 0 = 0 := by grind
    rw [this] at hinv
    exact absurd hinv (by decide)
  have eps_ne : ∀ ε : F, (ε = 1 ∨ ε = -1) → ε ≠ 0 := fun ε h => by rcases h with rfl | rfl <;> decide
  constructor
  · refine sp_fam (a := fun y => vR (itR (conM rows columns [t]) (conC rows columns [t]) y)) (b := fun y => vR (itR rows columns (gro worth t y))) (upF_lin u p columns n) fun y hy => ?_
    obtain ⟨hy1, hy2⟩ := hS y hy
    obtain ⟨ε, hε, he⟩ := hhigh y
    refine ⟨pw β n * pw (u p) n * ε, mul_ne (mul_ne (pw_ne hβ n) (pw_ne hup n)) (eps_ne ε hε), fun k => ?_⟩
    cases hk : (chs columns (n + 1))[k]? with
    | none =>
      rw [upF_none hk, hM2o y hy1 k hk]
      grind
    | some c =>
      have hc := mem_chs.mp (List.mem_of_getElem? hk)
      have hln : ((lotR rows y.2).map vR).length = n := by rw [List.length_map, lotR_n, hy1]
      rw [upF_some hk, hM2 y hy1 k c hk]
      have e1 := dL_up (u := u) (p := p) ((lotR rows y.2).map vR) c
      rw [hln, he] at e1
      have e2 : pw β n * pw (u p) n * ε * dL ((lotR rows (gro worth t y).2).map vR) c = pw β n * (pw (u p) n * (ε * dL ((lotR rows (gro worth t y).2).map vR) c)) := by grind
      rw [e2, e1, ← sm_mul]
      refine sm_congr fun j hj => ?_
      have hjc : j < c.length := by omega
      have hdl : (c.eraseIdx j).length = n := by rw [List.length_eraseIdx, if_pos hjc]; omega
      by_cases hpm : (p : Int) ∈ c.eraseIdx j
      · rw [if_pos hpm, dL_col2 _ p (c.eraseIdx j) (by rw [hdl, List.length_map, hln]) hpm fun w hw => by
          obtain ⟨v, _, rfl⟩ := List.mem_map.mp hw
          exact elw_at u p v]
        grind
      · rw [if_neg hpm]
        have hsub := List.eraseIdx_sublist c j
        have hasc : Asc (c.eraseIdx j) := hc.2.1.sublist hsub
        have hne : ∀ z ∈ c.eraseIdx j, z ≠ p := fun z hz e => hpm (e ▸ hz)
        have hm : (c.eraseIdx j).map (bkI p) ∈ chs ((columns - 1 : Nat) : Int) n := by
          refine mem_chs.mpr ⟨by rw [List.length_map, hdl], ?_, fun z hz => ?_⟩
          · refine List.pairwise_map.mpr (hasc.imp_of_mem fun {a b} ha hb h => bk_lt h (hne a ha) (hne b hb))
          · obtain ⟨w, hw, rfl⟩ := List.mem_map.mp hz
            have := hc.2.2 w (hsub.subset hw)
            have := hne w hw
            unfold bkI
            split <;> omega
        have hlt := List.idxOf_lt_length_of_mem hm
        have hq : (chs ((columns - 1 : Nat) : Int) n)[(chs ((columns - 1 : Nat) : Int) n).idxOf ((c.eraseIdx j).map (bkI p))]? = some ((c.eraseIdx j).map (bkI p)) := by rw [List.getElem?_eq_getElem hlt, List.getElem_idxOf hlt]
        rw [hM1 y hy1 hy2 _ _ hq]
        have hback : ((c.eraseIdx j).map (bkI p)).map (skI p) = c.eraseIdx j := by
          rw [List.map_map]
          have : (c.eraseIdx j).map (skI p ∘ bkI p) = (c.eraseIdx j).map id := List.map_congr_left fun z hz => sk_bk (hne z hz)
          rw [this, List.map_id]
        rw [hback]
        grind
  · refine sp_fam (a := fun y => vR (itR rows columns (gro worth t y))) (b := fun y => vR (itR (conM rows columns [t]) (conC rows columns [t]) y)) (dnF_lin p columns n) fun y hy => ?_
    obtain ⟨hy1, hy2⟩ := hS y hy
    obtain ⟨ε, hε, he⟩ := hhigh y
    refine ⟨ε * u p, mul_ne (eps_ne ε hε) hup, fun k => ?_⟩
    cases hk : (chs ((columns - 1 : Nat) : Int) n)[k]? with
    | none =>
      rw [dnF_none hk, hM1o y hy1 k hk]
      grind
    | some d =>
      have hd := mem_chs.mp (List.mem_of_getElem? hk)
      have hln : ((lotR rows y.2).map vR).length = n := by rw [List.length_map, lotR_n, hy1]
      rw [dnF_some hk, hM1 y hy1 hy2 k d hk]
      have hpm := srtM_perm ((p : Int) :: d.map (skI p))
      have hasc0 : Asc (d.map (skI p)) := List.pairwise_map.mpr (hd.2.1.imp fun h => sk_lt h)
      have hnd : ((p : Int) :: d.map (skI p)).Nodup := List.nodup_cons.mpr ⟨fun z => by
        obtain ⟨w, _, e⟩ := List.mem_map.mp z
        exact sk_ne w e, asc_nodup hasc0⟩
      have hcn : (srtM ((p : Int) :: d.map (skI p))).Nodup := hpm.nodup_iff.mpr hnd
      have hca : Asc (srtM ((p : Int) :: d.map (skI p))) := asc_of (srtM_le _) hcn
      have hcl : (srtM ((p : Int) :: d.map (skI p))).length = n + 1 := by rw [hpm.length_eq, List.length_cons, List.length_map, hd.1]
      have hpc : (p : Int) ∈ srtM ((p : Int) :: d.map (skI p)) := hpm.symm.subset List.mem_cons_self
      have hcm : srtM ((p : Int) :: d.map (skI p)) ∈ chs columns (n + 1) := by
        refine mem_chs.mpr ⟨hcl, hca, fun z hz => ?_⟩
        rcases List.mem_cons.mp (hpm.subset hz) with rfl | hz
        · omega
        · obtain ⟨w, hw, rfl⟩ := List.mem_map.mp hz
          have := hd.2.2 w hw
          unfold skI
          split <;> omega
      have hj := List.idxOf_lt_length_of_mem hpc
      have hjp : (srtM ((p : Int) :: d.map (skI p))).getD ((srtM ((p : Int) :: d.map (skI p))).idxOf (p : Int)) 0 = p := by
        rw [List.getD_eq_getElem?_getD, List.getElem?_eq_getElem hj, List.getElem_idxOf hj]
        rfl
      have her : (srtM ((p : Int) :: d.map (skI p))).eraseIdx ((srtM ((p : Int) :: d.map (skI p))).idxOf (p : Int)) = d.map (skI p) := by
        have h1 := er_perm (d := (0 : Int)) hj
        rw [hjp] at h1
        exact asc_eq ((h1.symm.trans hpm).cons_inv) (hca.sublist (List.eraseIdx_sublist _ _)) hasc0
      have hlt := List.idxOf_lt_length_of_mem hcm
      have hq : (chs columns (n + 1))[(chs columns (n + 1)).idxOf (srtM ((p : Int) :: d.map (skI p)))]? = some (srtM ((p : Int) :: d.map (skI p))) := by rw [List.getElem?_eq_getElem hlt, List.getElem_idxOf hlt]
      have e1 := dL_at (u := u) (p := p) (vs := (lotR rows y.2).map vR) (c := srtM ((p : Int) :: d.map (skI p))) (by rw [hcl, hln]) hcn hj hjp
      rw [hln, her, he] at e1
      rw [hM2 y hy1 _ _ hq]
      have e2 := pw_one (a := β) (b := u p) (by grind) n
      have e3 := sg_sq ((srtM ((p : Int) :: d.map (skI p))).idxOf (p : Int))
      generalize sg ((srtM ((p : Int) :: d.map (skI p))).idxOf (p : Int)) = σ at *
      generalize dL ((lotR rows (gro worth t y).2).map vR) (srtM ((p : Int) :: d.map (skI p))) = X at *
      generalize dL (((lotR rows y.2).map vR).map (elw u p)) (d.map (skI p)) = Y at *
      generalize pw β n = A at *
      generalize pw (u p) n = C at *
      have hεε : ε * ε = 1 := by rcases hε with rfl | rfl <;> decide
      -- C * (ε * X) = σ * u p * Y, A * C = 1
      have a1 : σ * X = (A * C) * (ε * ε) * (σ * X) := by rw [e2, hεε]; grind
      have a2 : (A * C) * (ε * ε) * (σ * X) = A * ε * σ * (C * (ε * X)) := by grind
      rw [a1, a2, e1]
      have a3 : A * ε * σ * (σ * u p * Y) = (σ * σ) * (A * ε * (u p * Y)) := by grind
      rw [a3, e3]
      grind
end K87
end
section
set_option Elab.async false
set_option linter.all false
set_option maxRecDepth 100000
/-! K30: apart, joined, check_ask, fits, first_fit. -/
namespace K87
open PySem PySem.Spec PyProof.Rows L2 DL SN
variable {P : Program} {w : World} {K : PySem.W.Frag} {mg : Str → Option Value} {base : Heap} {CT CS CB : Addr}
local macro_rules | `(tactic| subst_eqs) => `(tactic| try simp only [wSeq, wNext, wFor, wRng1, wRng2, wRd, wSt, wC, gNm, gTp, gsNil, gsCons, wLc, wLc2, wSeqI, wPs, wYes, wIf, wIfS, wTru, wTest, wAnd, wOr, wNot, wAndV, wOrV, wNotV, wOp, wI0, wI, wIx, wUn, wNeg, wCatT, wCB, wCF, wOpF, wCatL, wRepL, wLen, wIntOf, wMM, wListOf, wTupOf, wSorted, wK, wCons, wNil, wPar, wNoPart, wPart, wEn, wEnN, wEnT, wZp, wInI, wInT, wIsN, wNotN, wDGet, wMeth, wMake, wFldC, wCon, wIsi,
  rdSl_st, rdSl_wk, rdSl_ow, rdSl_oT, stSl_st, stSl_wk, truD_bl, truD_int, truD_lst, truD_tup, truD_non, lenD_lst, lenD_tup, lenD_scr, walkD_lst, walkD_tup, seqD_lst, seqD_tup, seqD_scr, solid_int, solid_bl, solid_tup, solid_ins, solid_non, solid_str, isNon_non, isNon_lst, isNon_tup, isNon_int, isNon_bl, frz_ow0, frz_succ, frzS_st, frzS_wk, frzS_ow, frzS_oT, frzS_no,
  startD, startS, wipeD, List.set_cons_zero, List.set_cons_succ, List.getElem?_cons_zero, List.getElem?_cons_succ, List.length_cons, List.length_nil, List.cons_append, List.nil_append, List.map_cons, List.map_nil, List.replicate, Nat.reduceSub, Nat.reduceAdd, Option.some.injEq, Sl.st.injEq, Sl.wk.injEq, Sl.ow.injEq, Sl.oT.injEq, Sl.oI.injEq, D.int.injEq, D.lst.injEq, D.tup.injEq, D.bl.injEq, D.dT.injEq, D.ins.injEq, List.cons.injEq, exists_eq_left, exists_eq_left', exists_eq_right, exists_eq_right', exists_and_left, exists_and_right, and_assoc, decide_eq_true_eq, and_true, true_and, and_self, reduceIte, ite_true, ite_false, Bool.false_eq_true, reduceCtorEq, exists_false, false_and, and_false, exists_const, forall_const])


def apM (a b : List Int) : Bool := a.all fun x => !decide (x ∈ b)
def g_apart : GD := fun ds Q => ∃ a b : List Int, ds = [tI a, tI b] ∧ Q (.bl (apM a b))
theorem sc_apart : FnScope ["lot", "other", "x"] ["lot", "other"] (defScope (top 11)) := ⟨rfl, rfl, rfl, by decide +kernel, rfl, by decide +kernel, by decide +kernel⟩
theorem u_apart (T : Txt K mg CT CS CB) : Use P w K mg base "apart" 2 [false, false] g_apart := by
  have S := sc_apart
  refine T.f_apart.use (k := 1) S rfl fun f cdv A outer s H E hr => ⟨_, _, (dss_cons (ds_for PassesOwn.never rfl (dip_nmK (K := K) 0) (dg_name (i := 2) S.nd) (dss_one (ds_if (dt_cmp (op_inK (K := K)) lo_inT (dr 2) (dr 1) rfl) (dss_one (ds_ret de_bl)) dss_nil)))
      (dss_one (ds_ret de_bl))), fun ds Q hl hg => ?_⟩
  obtain ⟨a, b, rfl, q⟩ := hg
  unfold tI
  subst_eqs
  refine forW_inv (α := Int) (S := Sl) D.int (fun s => [.wk (.tup (a.map .int)), .wk (.tup (b.map .int)), s]) (fun xs _ => apM a b = apM xs b) ?_ ?_ a .no rfl
  · intro s h
    subst_eqs
    rw [h] at q
    exact q
  · intro x xs s J h hJ
    subst_eqs
    refine ⟨b, rfl, ?_⟩
    have e : apM (x :: xs) b = (!decide (x ∈ b) && apM xs b) := rfl
    rw [e] at h
    by_cases c : x ∈ b
    · rw [decide_eq_true c] at h
      rw [if_pos c]
      rw [h] at q
      exact q
    · rw [decide_eq_false c] at h
      rw [if_neg c]
      exact hJ _ (by rw [h]; simp)
def jnM (a b : List Int) : List Int := srtM (a ++ b)
def g_joined : GD := fun ds Q => ∃ a b : List Int, ds = [tI a, tI b] ∧ a.length ≤ 20 ∧ b.length ≤ 20 ∧ Q (if apM a b = true then tI (jnM a b) else .non)
theorem sc_joined : FnScope ["lot", "other"] ["lot", "other"] (defScope (top 12)) := ⟨rfl, rfl, rfl, by decide +kernel, rfl, by decide +kernel, by decide +kernel⟩
theorem u_joined (T : Txt K mg CT CS CB) : Use P w K mg base "joined" 3 [false, false] g_joined := by
  have S := sc_joined
  refine T.f_joined.use (k := 2) S rfl fun f cdv A outer s H E hr => ⟨_, _, (dss_cons (ds_if (dt_not (dt_val (Use.deK (K := K) (u_apart T) hr (da_wk (dr 0) (da_wk (dr 1) da_nil))))) (dss_one (ds_ret de_non)) dss_nil)
      (dss_one (ds_ret (de_callT (call_tuple_ofK (K := K)) lc_tuple rfl T.b_tuple (da_wk (DF.w (df_callB (cr_sortedK (K := K)) lc_sorted rfl T.b_sorted (da_wk (DF.w (df_op op_cat lo_catL (DF.w (df_callT (call_list_ofK (K := K)) lc_list rfl T.b_list (da_wk (dr 0) da_nil))) (DF.w (df_callT (call_list_ofK (K := K)) lc_list rfl T.b_list (da_wk (dr 1) da_nil))))) da_nil))) da_nil))))), fun ds Q hl hg => ?_⟩
  obtain ⟨a, b, rfl, ha, hb, q⟩ := hg
  subst_eqs
  refine ⟨a, b, rfl, _, rfl, ?_⟩
  by_cases c : apM a b = true
  · rw [if_pos c] at q
    rw [c, if_neg (by decide)]
    refine ⟨_, rfl, _, rfl, le_size (by rw [List.length_map, List.length_map]; omega), a ++ b, List.map_append.symm, by rw [List.length_append]; omega, fun ns' hp hs => ?_⟩
    rw [srtM_eq hp hs]
    exact q
  · rw [if_neg c] at q
    rw [Bool.eq_false_iff.mpr c, if_pos (by decide)]
    exact q
def g_cask (CT CS : Addr) : GD := fun ds Q => ∃ (rows : List Rw) (columns size : Nat) (ask : List Int), ds = [schD CS CT rows columns size, tI ask] ∧ ask.length + size ≤ columns ∧ lotF rows.length 0 ask = true ∧ Q .non
theorem sc_Scheme_check_ask : FnScope ["self", "ask"] ["self", "ask"] (defScope (cm 24 3)) := ⟨rfl, rfl, rfl, by decide +kernel, rfl, by decide +kernel, by decide +kernel⟩
theorem u_Scheme_check_ask (T : Txt K mg CT CS CB) : UseM P w K mg base CS "check_ask" 3 [false] (g_cask CT CS) := by
  have S := sc_Scheme_check_ask
  refine T.c_Scheme.m_check_ask.use (k := 2) T.c_Scheme.cls S rfl fun f cdv A outer s H E hr => ⟨_, _, (dss_one (ds_if (DTW.t (dw_or (dt_cmp op_gt lo_B0 (DE.w (de_callB (call_lenK (K := K)) lc_len rfl T.b_len (da_wk (dr 1) da_nil))) (DE.w (de_fldK (K := K) T.c_Scheme.cls T.c_Scheme.n_spare (dv 0))) (nomark _)) (dw_or1 (dt_not (dt_val (Use.deK (K := K) (u_is_lot T) hr (da_wk (dr 1) (da_wk (DE.w (de_fldK (K := K) T.c_Table.cls T.c_Table.n_things (de_fldK (K := K) T.c_Scheme.cls T.c_Scheme.n_table (dv 0)))) da_nil)))))))) dss_never dss_nil)), fun ds Q hl hg => ?_⟩
  obtain ⟨rows, columns, size, ask, rfl, hls, hlot, q⟩ := hg
  unfold tI
  subst_eqs
  refine ⟨_, rfl, (columns : Int) - size, rfl, ?_⟩
  rw [List.length_map, if_neg (by omega)]
  refine ⟨_, rfl, _, rfl, _, rfl, ?_⟩
  refine ⟨ask, rows.length, rfl, ?_⟩
  rw [hlot]
  exact ⟨true, rfl, q⟩
def g_fits (CT CS : Addr) : GD := fun ds Q => ∃ (rows : List Rw) (columns size : Nat) (lot ask : List Int), ds = [schD CS CT rows columns size, tI lot, tI ask] ∧ TabOk rows columns ∧ lot.length = size ∧ lotF rows.length 0 lot = true ∧ ask.length + size ≤ columns ∧ lotF rows.length 0 ask = true ∧ Q (.bl (freeM rows (lot ++ ask)))
theorem sc_Scheme_fits : FnScope ["self", "lot", "ask"] ["self", "lot", "ask"] (defScope (cm 24 8)) := ⟨rfl, rfl, rfl, by decide +kernel, rfl, by decide +kernel, by decide +kernel⟩
theorem u_Scheme_fits (T : Txt K mg CT CS CB) : UseM P w K mg base CS "fits" 6 [false, false] (g_fits CT CS) := by
  have S := sc_Scheme_fits
  refine T.c_Scheme.m_fits.use (k := 5) T.c_Scheme.cls S rfl fun f cdv A outer s H E hr => ⟨_, _, (dss_cons (ds_expr (DE.w (UseM.deK (K := K) (u_Scheme_check T) hr (dv 0) (da_wk (dr 1) da_nil))))
      (dss_cons (ds_expr (DE.w (UseM.deK (K := K) (u_Scheme_check_ask T) hr (dv 0) (da_wk (dr 2) da_nil))))
      (dss_one (ds_ret (UseM.deK (K := K) (u_Table_free T) hr (de_fldK (K := K) T.c_Scheme.cls T.c_Scheme.n_table (dv 0)) (da_wk (DE.w (de_op (op_catAK (K := K)) lo_catT (dr 1) (dr 2))) da_nil)))))), fun ds Q hl hg => ?_⟩
  obtain ⟨rows, columns, size, lot, ask, rfl, ht, hls, hlot, has, hask, q⟩ := hg
  have htc := ht.c
  subst_eqs
  refine ⟨rfl, rows, columns, size, lot, rfl, hls, hlot, ?_⟩
  subst_eqs
  refine ⟨rfl, rows, columns, size, ask, rfl, has, hask, ?_⟩
  subst_eqs
  simp only [schF_t]
  subst_eqs
  have hap : (lot.map D.int) ++ (ask.map D.int) = (lot ++ ask).map D.int := List.map_append.symm
  have h1 := lotF_spec.mp hlot
  have h2 := lotF_spec.mp hask
  refine ⟨rfl, _, rfl, _, rfl, le_size (by rw [List.length_map, List.length_map]; omega), ?_⟩
  refine ⟨rows, columns, lot ++ ask, by rw [hap]; rfl, ht, fun x hx => ?_, by rw [List.length_append]; omega, q⟩
  rcases List.mem_append.mp hx with hx | hx
  · exact h1.2 x hx
  · exact h2.2 x hx
def optD : Option Item → D
  | none => .non
  | some i => itD i
def ffM (rows : List Rw) (items : List Item) (ask : List Int) : Option Item := (rkM items).find? fun i => freeM rows (i.2 ++ ask)
def g_ffit (CT CS : Addr) : GD := fun ds Q => ∃ (rows : List Rw) (columns size : Nat) (items : List Item) (ask : List Int), ds = [schD CS CT rows columns size, .lst (items.map itD), tI ask] ∧ TabOk rows columns ∧ items.length < 64 ∧ (∀ i ∈ items, i.2.length = size ∧ lotF rows.length 0 i.2 = true) ∧ ask.length + size ≤ columns ∧ lotF rows.length 0 ask = true ∧ Q (optD (ffM rows items ask))
theorem sc_first_fit : FnScope ["scheme", "items", "ask", "item"] ["scheme", "items", "ask"] (defScope (top 26)) := ⟨rfl, rfl, rfl, by decide +kernel, rfl, by decide +kernel, by decide +kernel⟩
theorem u_first_fit (T : Txt K mg CT CS CB) : Use P w K mg base "first_fit" 7 [true, false, false] (g_ffit CT CS) := by
  have S := sc_first_fit
  refine T.f_first_fit.use (k := 6) S rfl fun f cdv A outer s H E hr => ⟨_, _, (dss_cons (ds_expr (DE.w (UseM.deK (K := K) (u_Scheme_check_ask T) hr (dv 0) (da_wk (dr 2) da_nil))))
      (dss_cons (ds_for PassesOwn.never rfl (dip_nmK (K := K) 1) (dg_name (i := 3) S.nd) (dss_one (ds_expr (DE.w (UseM.deK (K := K) (u_Scheme_check T) hr (dv 0) (da_wk (DE.w (de_ixK (K := K) (dr 3) (DE.w de_int))) da_nil))))))
      (dss_cons (ds_for PassesOwn.never rfl (dip_seqK (K := K) (Use.deK (K := K) (u_ranked T) hr (da_wk (dr 1) da_nil))) (dg_name (i := 3) S.nd) (dss_one (ds_if (dt_val (UseM.deK (K := K) (u_Scheme_fits T) hr (dv 0) (da_wk (DE.w (de_ixK (K := K) (dr 3) (DE.w de_int))) (da_wk (dr 2) da_nil)))) (dss_one (ds_ret (dv 3))) dss_nil)))
      (dss_one (ds_ret de_non))))), fun ds Q hl hg => ?_⟩
  obtain ⟨rows, columns, size, items, ask, rfl, ht, hil, hit, has, hask, q⟩ := hg
  subst_eqs
  refine ⟨rfl, rows, columns, size, ask, rfl, has, hask, ?_⟩
  subst_eqs
  refine forW_inv (α := Item) (S := Sl) itD (fun s => [.st (schD CS CT rows columns size), .wk (.lst (items.map itD)), .wk (tI ask), s]) (fun xs _ => ∀ i ∈ xs, i ∈ items) ?_ ?_ items .no (fun i h => h)
  rotate_left
  · intro i xs s J h hJ
    have hi := hit i (h i List.mem_cons_self)
    have := hJ (.st (itD i)) fun j hj => h j (List.mem_cons_of_mem _ hj)
    unfold itD at *
    subst_eqs
    rw [itD_1]
    exact ⟨rfl, _, rfl, rows, columns, size, i.2, rfl, hi.1, hi.2, this⟩
  intro s _
  subst_eqs
  refine ⟨items, rfl, hil, ?_⟩
  refine ⟨_, rfl, ?_⟩
  refine forW_inv (α := Item) (S := Sl) itD (fun s => [.st (schD CS CT rows columns size), .wk (.lst (items.map itD)), .wk (tI ask), s]) (fun xs _ => (ffM rows items ask = xs.find? fun i => freeM rows (i.2 ++ ask)) ∧ ∀ i ∈ xs, i ∈ items) ?_ ?_ (rkM items) s ⟨rfl, fun i h => ((rkM_spec items).2 i).mp h⟩
  · intro s ⟨h, _⟩
    subst_eqs
    rw [h] at q
    exact q
  · intro i xs s J ⟨h1, h2⟩ hJ
    have hi := hit i (h2 i List.mem_cons_self)
    have e : (i :: xs).find? (fun i => freeM rows (i.2 ++ ask)) = if freeM rows (i.2 ++ ask) = true then some i else xs.find? (fun i => freeM rows (i.2 ++ ask)) := by
      rw [List.find?_cons]
      cases freeM rows (i.2 ++ ask) <;> rfl
    rw [e] at h1
    have hn := hJ (.st (itD i))
    unfold itD at hn ⊢
    subst_eqs
    refine ⟨rfl, _, itD_1 i, rows, columns, size, i.2, ask, rfl, ht, hi.1, hi.2, has, hask, _, rfl, ?_⟩
    by_cases c : freeM rows (i.2 ++ ask) = true
    · rw [if_pos c] at h1 ⊢
      rw [h1] at q
      exact q
    · rw [if_neg c] at h1 ⊢
      exact hn ⟨h1, fun j hj => h2 j (List.mem_cons_of_mem _ hj)⟩
end K87
end
section
set_option Elab.async false
set_option linter.all false
set_option maxRecDepth 100000
/-! K31: grow; drawn items. -/
namespace K87
open PySem PySem.Spec PyProof.Rows L2 DL SN
variable {P : Program} {w : World} {K : PySem.W.Frag} {mg : Str → Option Value} {base : Heap} {CT CS CB : Addr}
local macro_rules | `(tactic| subst_eqs) => `(tactic| try simp only [wSeq, wNext, wFor, wRng1, wRng2, wRd, wSt, wC, gNm, gTp, gsNil, gsCons, wLc, wLc2, wSeqI, wPs, wYes, wIf, wIfS, wTru, wTest, wAnd, wOr, wNot, wAndV, wOrV, wNotV, wOp, wI0, wI, wIx, wUn, wNeg, wCatT, wCB, wCF, wOpF, wCatL, wRepL, wLen, wIntOf, wMM, wListOf, wTupOf, wSorted, wK, wCons, wNil, wPar, wNoPart, wPart, wEn, wEnN, wEnT, wZp, wInI, wInT, wIsN, wNotN, wDGet, wMeth, wMake, wFldC, wCon, wIsi,
  rdSl_st, rdSl_wk, rdSl_ow, rdSl_oT, stSl_st, stSl_wk, truD_bl, truD_int, truD_lst, truD_tup, truD_non, lenD_lst, lenD_tup, lenD_scr, walkD_lst, walkD_tup, seqD_lst, seqD_tup, seqD_scr, solid_int, solid_bl, solid_tup, solid_ins, solid_non, solid_str, isNon_non, isNon_lst, isNon_tup, isNon_int, isNon_bl, frz_ow0, frz_succ, frzS_st, frzS_wk, frzS_ow, frzS_oT, frzS_no,
  startD, startS, wipeD, List.set_cons_zero, List.set_cons_succ, List.getElem?_cons_zero, List.getElem?_cons_succ, List.length_cons, List.length_nil, List.cons_append, List.nil_append, List.map_cons, List.map_nil, List.replicate, Nat.reduceSub, Nat.reduceAdd, Option.some.injEq, Sl.st.injEq, Sl.wk.injEq, Sl.ow.injEq, Sl.oT.injEq, Sl.oI.injEq, D.int.injEq, D.lst.injEq, D.tup.injEq, D.bl.injEq, D.dT.injEq, D.ins.injEq, List.cons.injEq, exists_eq_left, exists_eq_left', exists_eq_right, exists_eq_right', exists_and_left, exists_and_right, and_assoc, decide_eq_true_eq, and_true, true_and, and_self, reduceIte, ite_true, ite_false, Bool.false_eq_true, reduceCtorEq, exists_false, false_and, and_false, exists_const, forall_const])


/-- the grown items, as they come -/
def grs (items : List Item) (t worth : Int) : List Item := (items.filter fun i => apM i.2 [t]).map (gro worth t)
def g_grow : GD := fun ds Q => ∃ (items : List Item) (t worth : Int), ds = [.lst (items.map itD), .int t, .int worth] ∧ items.length < 64 ∧ (∀ i ∈ items, i.2.length ≤ 19) ∧ Q (.lst ((rkM (grs items t worth)).map itD))
theorem sc_grow : FnScope ["items", "thing", "worth", "found", "item", "lot"] ["items", "thing", "worth"] (defScope (top 28)) := ⟨rfl, rfl, rfl, by decide +kernel, rfl, by decide +kernel, by decide +kernel⟩
theorem u_grow (T : Txt K mg CT CS CB) : Use P w K mg base "grow" 4 [false, false, false] g_grow := by
  have S := sc_grow
  refine T.f_grow.use (k := 3) S rfl fun f cdv A outer s H E hr => ⟨_, _, (dss_cons (ds_own (i := 3) S.nd (df_lst da_nil))
      (dss_cons (ds_for PassesOwn.never rfl (dip_nmK (K := K) 0) (dg_name (i := 4) S.nd) (dss_cons (ds_set (i := 5) S.nd (Use.deK (K := K) (u_joined T) hr (da_wk (DE.w (de_ixK (K := K) (dr 4) (DE.w de_int))) (da_wk (DE.w (de_tup (da_st (DW.k (dr 1)) da_nil))) da_nil))))
      (dss_one (ds_if (dt_cmp op_notN lo_notN (dr 5) (DE.w de_non) (nomark _)) (dss_one (ds_app (i := 3) (de_tup (da_st (de_op op_add lo_I0 (DE.w (de_ixK (K := K) (dr 4) (DE.w de_int))) (dr 2)) (da_st (dv 5) da_nil))))) dss_nil))))
      (dss_one (ds_ret (Use.deK (K := K) (u_ranked T) hr (da_wk (dr 3) da_nil)))))), fun ds Q hl hg => ?_⟩
  obtain ⟨items, t, worth, rfl, hil, hit, q⟩ := hg
  subst_eqs
  intro a
  have gl : ∀ l : List Item, (grs l t worth).length ≤ l.length := fun l => by
    unfold grs
    rw [List.length_map]
    exact List.length_filter_le _ _
  refine forW_inv2 (α := Item) (S := List Item × Sl × Sl) itD (fun s => [_, _, _, .ow a (s.1.map itD), s.2.1, s.2.2]) (fun ys xs s => ys ++ xs = items ∧ s.1 = grs ys t worth) ?_ ?_ items [] ([], .no, .no) ⟨rfl, rfl⟩
  · intro ys s ⟨h1, h2⟩
    rw [List.append_nil] at h1
    subst h1
    subst_eqs
    rw [h2]
    exact ⟨grs ys t worth, rfl, by have := gl ys; omega, q⟩
  · intro ys i xs s J ⟨h1, h2⟩ hJ
    have hi : i ∈ items := by rw [← h1]; exact List.mem_append_right _ List.mem_cons_self
    have hil2 := hit i hi
    have hg : grs (ys ++ [i]) t worth = grs ys t worth ++ (if apM i.2 [t] = true then [gro worth t i] else []) := by
      unfold grs
      rw [List.filter_append, List.map_append]
      congr 1
      show (List.filter (fun i : Item => apM i.2 [t]) [i]).map (gro worth t) = _
      cases c : apM i.2 [t] with
      | true => rw [List.filter_cons_of_pos (p := fun i : Item => apM i.2 [t]) c]; rfl
      | false => rw [List.filter_cons_of_neg (p := fun i : Item => apM i.2 [t]) (by simp [c])]; rfl
    have hlen : ys.length + (xs.length + 1) = items.length := by rw [← h1, List.length_append, List.length_cons]
    have hn := fun z f => hJ (f, .st (itD i), z)
    have e1 : itD i = D.tup [D.int i.1, tI i.2] := rfl
    rw [e1] at hn ⊢
    subst_eqs
    refine ⟨_, itD_1 i, ?_⟩
    refine ⟨i.2, [t], rfl, by omega, by simp, ?_⟩
    by_cases c : apM i.2 [t] = true
    · rw [if_pos c] at hg ⊢
      rw [if_pos (show (!DL.isNon (tI (jnM i.2 [t]))) = true from rfl)]
      refine ⟨_, rfl, _, rfl, lt_size (by rw [List.length_map, h2]; have := gl ys; omega), ?_⟩
      have z := hn (.st (tI (jnM i.2 [t]))) (s.1 ++ [gro worth t i]) ⟨by rw [List.append_assoc]; exact h1, by rw [hg, ← h2]⟩
      simp only [List.map_append, List.map_cons, List.map_nil] at z
      exact z
    · rw [if_neg c] at hg ⊢
      rw [if_neg (show ¬ ((!DL.isNon D.non) = true) from by rw [isNon_non]; decide)]
      exact hn (.st .non) s.1 ⟨by rw [List.append_assoc]; exact h1, by rw [hg, ← h2, List.append_nil]⟩
theorem chs_few8 : ∀ c < 9, ∀ n < 7, (chs ((c : Nat) : Int) n).length ≤ 70 := by decide +kernel
theorem drawn2 {a b : Int} {out : List Int} (h : Drawn [a, b] out) : ∃ v w : Int, out = [v, w] ∧ (0 ≤ v ∧ v < a) ∧ (0 ≤ w ∧ w < b) := by
  match out, h with
  | [v, w], h => exact ⟨v, w, rfl, h.at_ 0 (by simp), h.at_ 1 (by simp)⟩
  | [], h => exact absurd h.len (by simp)
  | [_], h => exact absurd h.len (by simp)
  | _ :: _ :: _ :: _, h => exact absurd h.len (by simp)
def g_items : GD := fun ds Q => ∃ (ns : List Int) (count size : Nat) (most : Int), ds = [.scr ns, .lst ((chs count size).map tI), .int most] ∧ count < 9 ∧ size < 7 ∧ 0 ≤ most ∧ most ≤ 16 ∧ ∀ items : List Item, items.length ≤ 16 → (∀ i ∈ items, i.2 ∈ chs count size) → Q (.lst (items.map itD))
theorem sc__law_items : FnScope ["script", "lots", "most", "items", "k", "drawn"] ["script", "lots", "most"] (defScope (top 43)) := ⟨rfl, rfl, rfl, by decide +kernel, rfl, by decide +kernel, by decide +kernel⟩
theorem u__law_items (T : Txt K mg CT CS CB) : Use P w K mg base "_law_items" 4 [false, false, false] g_items := by
  have S := sc__law_items
  refine T.f__law_items.use (k := 3) S rfl fun f cdv A outer s H E hr => ⟨_, _, (dss_cons (ds_own (i := 3) S.nd (df_lst da_nil))
      (dss_cons (ds_for PassesOwn.never rfl (di_rng1 rfl T.b_range (da_wk (dr 2) da_nil)) (dg_name (i := 4) S.nd) (dss_cons (ds_set (i := 5) S.nd (Use.deK (K := K) (u__law_draws T) hr (da_wk (DE.w (Use.deK (K := K) (u__law_cell T) hr (da_wk (dr 0) (da_wk (DE.w (de_op op_add lo_I0 (DE.w de_int) (dr 4))) da_nil)))) (da_wk (DF.w (df_lst (da_st de_int (da_st (de_callB (call_max2 rfl) lc_mm rfl T.b_max (da_wk (DE.w de_int) (da_wk (DE.w (de_callB (call_lenK (K := K)) lc_len rfl T.b_len (da_wk (dr 1) da_nil))) da_nil))) da_nil)))) da_nil))))
      (dss_one (ds_if (dt_cmp op_gt lo_B0 (DE.w (de_callB (call_lenK (K := K)) lc_len rfl T.b_len (da_wk (dr 1) da_nil))) (DE.w de_int) (nomark _)) (dss_one (ds_app (i := 3) (de_tup (da_st (de_op op_sub lo_I0 (DE.w (de_ixK (K := K) (dr 5) (DE.w de_int))) (DE.w de_int)) (da_st (de_ixK (K := K) (dr 1) (DE.w (de_ixK (K := K) (dr 5) (DE.w de_int)))) da_nil))))) dss_nil))))
      (dss_frz 3 (dss_one (ds_ret (dv 3)))))), fun ds Q hl hg => ?_⟩
  obtain ⟨ns, count, size, most, rfl, hc, hs, h0, h16, q⟩ := hg
  subst_eqs
  intro a
  refine ⟨⟨by omega, by omega⟩, ?_⟩
  rw [rngD_rgI0]
  have hch : (chs count size).length ≤ 70 := chs_few8 count hc size hs
  refine forW_inv (α := Int) (S := List Item × Sl × Sl) D.int (fun s => [_, _, _, .ow a (s.1.map itD), s.2.1, s.2.2]) (fun xs s => xs.length + s.1.length ≤ 16 ∧ (∀ x ∈ xs, (0 : Int) ≤ x) ∧ ∀ i ∈ s.1, i.2 ∈ chs count size) ?_ ?_ (rgI 0 most) ([], .no, .no) ⟨by rw [rgI_len]; simp; omega, fun x h => (mem_rgI.mp h).1, fun i h => nomatch h⟩
  · intro s ⟨h1, _, h3⟩
    subst_eqs
    exact q s.1 (by simpa using h1) h3
  · intro k xs s K1 ⟨h1, h2, h3⟩ hK
    subst_eqs
    refine ⟨ns, 8 + k, rfl, by have := h2 k List.mem_cons_self; omega, fun cell3 => ?_⟩
    simp only [List.length_map]
    refine ⟨cell3, [5, if ((chs count size).length : Int) > 1 then ((chs count size).length : Int) else 1], rfl, fun l hl => ?_, by simp, fun out2 ho2 => ?_⟩
    · rcases List.mem_cons.mp hl with rfl | hl
      · decide
      · rw [List.mem_singleton.mp hl]
        split <;> omega
    obtain ⟨v, w, rfl, bv, bw⟩ := drawn2 ho2
    by_cases hN : 0 < ((chs count size).length : Int)
    · rw [if_pos hN]
      have hw : w.toNat < (chs count size).length := by
        have := bw.2
        split at this <;> omega
      have hat : atI ((chs count size).map tI) w = some (tI (chs count size)[w.toNat]) := by
        rw [atI_of bw.1, List.getElem?_map, List.getElem?_eq_getElem hw]
        rfl
      refine ⟨_, rfl, _, rfl, _, rfl, _, rfl, _, rfl, _, rfl, _, hat, lt_size (by rw [List.length_cons] at h1; omega), ?_⟩
      have z := hK (s.1 ++ [(v - 2, (chs count size)[w.toNat])], .st (.int k), .st (lI [v, w])) ⟨by rw [List.length_append, List.length_singleton]; rw [List.length_cons] at h1; omega, fun x hx => h2 x (List.mem_cons_of_mem _ hx), fun i hi => ?_⟩
      · simp only [List.map_append, List.map_cons, List.map_nil] at z
        exact z
      · rcases List.mem_append.mp hi with hi | hi
        · exact h3 i hi
        · rw [List.mem_singleton.mp hi]
          exact List.getElem_mem hw
    · rw [if_neg hN]
      exact hK (s.1, .st (.int k), .st (lI [v, w])) ⟨by show xs.length + s.1.length ≤ 16; rw [List.length_cons] at h1; omega, fun x hx => h2 x (List.mem_cons_of_mem _ hx), h3⟩
end K87
end
section
set_option Elab.async false
set_option linter.all false
set_option maxRecDepth 100000
/-! K32: contracted by one thing, as the law does it; the first fit, as the law finds it. -/
namespace K87
open PySem PySem.Spec PyProof.Rows L2 DL SN
variable {P : Program} {w : World} {K : PySem.W.Frag} {mg : Str → Option Value} {base : Heap} {CT CS CB : Addr}
local macro_rules | `(tactic| subst_eqs) => `(tactic| try simp only [wSeq, wNext, wFor, wRng1, wRng2, wRd, wSt, wC, gNm, gTp, gsNil, gsCons, wLc, wLc2, wSeqI, wPs, wYes, wIf, wIfS, wTru, wTest, wAnd, wOr, wNot, wAndV, wOrV, wNotV, wOp, wI0, wI, wIx, wUn, wNeg, wCatT, wCB, wCF, wOpF, wCatL, wRepL, wLen, wIntOf, wMM, wListOf, wTupOf, wSorted, wK, wCons, wNil, wPar, wNoPart, wPart, wEn, wEnN, wEnT, wZp, wInI, wInT, wIsN, wNotN, wDGet, wMeth, wMake, wFldC, wCon, wIsi,
  rdSl_st, rdSl_wk, rdSl_ow, rdSl_oT, stSl_st, stSl_wk, truD_bl, truD_int, truD_lst, truD_tup, truD_non, lenD_lst, lenD_tup, lenD_scr, walkD_lst, walkD_tup, seqD_lst, seqD_tup, seqD_scr, solid_int, solid_bl, solid_tup, solid_ins, solid_non, solid_str, isNon_non, isNon_lst, isNon_tup, isNon_int, isNon_bl, frz_ow0, frz_succ, frzS_st, frzS_wk, frzS_ow, frzS_oT, frzS_no,
  startD, startS, wipeD, List.set_cons_zero, List.set_cons_succ, List.getElem?_cons_zero, List.getElem?_cons_succ, List.length_cons, List.length_nil, List.cons_append, List.nil_append, List.map_cons, List.map_nil, List.replicate, Nat.reduceSub, Nat.reduceAdd, Option.some.injEq, Sl.st.injEq, Sl.wk.injEq, Sl.ow.injEq, Sl.oT.injEq, Sl.oI.injEq, D.int.injEq, D.lst.injEq, D.tup.injEq, D.bl.injEq, D.dT.injEq, D.ins.injEq, List.cons.injEq, exists_eq_left, exists_eq_left', exists_eq_right, exists_eq_right', exists_and_left, exists_and_right, and_assoc, decide_eq_true_eq, and_true, true_and, and_self, reduceIte, ite_true, ite_false, Bool.false_eq_true, reduceCtorEq, exists_false, false_and, and_false, exists_const, forall_const])

theorem while_to {S : Type} {c : WT} {b : WS} {P : De} (mk : S → St') (I : S → Prop) (μ : S → Nat) (s1 : S) (hx : P.nx (mk s1))
    (h : ∀ s (K : St' → Prop) (N : Prop), I s → (∀ s', I s' → μ s' < μ s → K (mk s')) → (s = s1 → N) → c (mk s) fun k => if k = true then b { nx := K, rt := P.rt, ct := K, bk := P.nx } (mk s) else N) :
    ∀ s, I s → wWhile c b P (mk s) := while_inv mk I μ fun s K hi hk => h s K (P.nx (mk s)) hi hk fun e => e ▸ hx
def g_lcon1 : GD := fun ds Q => ∃ (rows : List Rw) (columns : Nat) (t : Int), ds = [rwsD rows, .int t, .int columns] ∧ TabOk rows columns ∧ 0 < columns ∧ Ins rows [t] ∧ RfGo [] (lotR rows [t]) ∧ Q (rwsD (conM rows columns [t]))
theorem sc__law_contracted : FnScope ["rows", "thing", "columns", "lead", "factor", "own", "number", "found", "row", "j"] ["rows", "thing", "columns"] (defScope (top 50)) := ⟨rfl, rfl, rfl, by decide +kernel, rfl, by decide +kernel, by decide +kernel⟩
theorem u__law_contracted (T : Txt K mg CT CS CB) : Use P w K mg base "_law_contracted" 3 [false, false, false] g_lcon1 := by
  have S := sc__law_contracted
  refine T.f__law_contracted.use (k := 2) S rfl fun f cdv A outer s H E hr => ⟨_, _, (dss_cons (ds_set (i := 3) S.nd de_int)
      (dss_cons (ds_while PassesOwn.never (DTW.t (dw_and (dt_cmp op_lt lo_B0 (dr 3) (DE.w (de_op op_sub lo_I0 (dr 2) (DE.w de_int))) (nomark _)) (dw_and1 (dt_cmp op_eq lo_eqI (DE.w (de_op op_mod lo_I (DE.w (de_callT call_int1 lc_int rfl T.b_int (da_wk (DE.w (de_ixK (K := K) (DE.w (de_ixK (K := K) (dr 0) (dr 1))) (dr 3))) da_nil))) (DE.w de_int))) (DE.w de_int) (nomark _))))) (dss_one (ds_set (i := 3) S.nd (de_op op_add lo_I0 (dr 3) (DE.w de_int)))))
      (dss_cons (ds_set (i := 4) S.nd (Use.deK (K := K) (u__law_inverse T) hr (da_wk (DE.w (de_ixK (K := K) (DE.w (de_ixK (K := K) (dr 0) (dr 1))) (dr 3))) da_nil)))
      (dss_cons (ds_set (i := 5) S.nd (DF.e (df_lc (own := [("number", 6)]) rfl S.nd (DIp.w (dip_seqK (K := K) (de_ixK (K := K) (dr 0) (dr 1)))) (by kernel_rfl) (fun _ _ _ _ _ => (dg_name (i := 6) S.nd)) (fun _ _ _ _ _ => dts_nil) (fun _ _ _ _ _ => (de_op op_mod lo_I (DE.w (de_callT call_int1 lc_int rfl T.b_int (da_wk (DE.w (de_op op_mul lo_I (dr 4) (dr 6))) da_nil))) (DE.w de_int))))))
      (dss_cons (ds_own (i := 7) S.nd (df_lst da_nil))
      (dss_cons (ds_for PassesOwn.never rfl (dip_nmK (K := K) 0) (dg_name (i := 8) S.nd) (dss_one (ds_app (i := 7) (DF.e (df_lc (own := [("j", 9)]) rfl S.nd (DIp.w (di_rng1 rfl T.b_range (da_wk (dr 2) da_nil))) (by kernel_rfl) (fun _ _ _ _ _ => (dg_name (i := 9) S.nd)) (fun _ _ _ _ _ => (dts_one (dt_cmp op_ne lo_neI (dr 9) (dr 3) (nomark _)))) (fun _ _ _ _ _ => (de_op op_mod lo_I (DE.w (de_callT call_int1 lc_int rfl T.b_int (da_wk (DE.w (de_op op_sub lo_I0 (DE.w (de_ixK (K := K) (dr 8) (dr 9))) (DE.w (de_op op_mul lo_I (DE.w (de_ixK (K := K) (dr 8) (dr 3))) (DE.w (de_ixK (K := K) (dr 5) (dr 9))))))) da_nil))) (DE.w de_int))))))))
      (dss_frz 7 (dss_one (ds_ret (dv 7)))))))))), fun ds Q hl hg => ?_⟩
  obtain ⟨rows, columns, t, rfl, ht, hc0, hi, hg, q⟩ := hg
  obtain ⟨p, hp, hpv, hup, hB⟩ := one_basis ht hg hi
  have hti := hi t List.mem_cons_self
  have hrow := get_row hti.1 hti.2
  have hr0 := rows_res ht t.toNat
  have hl0 : (rows.getD t.toNat []).length = columns := lotR_len ht hi _ (List.mem_map.mpr ⟨t, List.mem_cons_self, rfl⟩)
  have htc := ht.c
  have hlead : (rows.getD t.toNat []).getD p 0 ≠ 0 ∧ ∀ j < p, (rows.getD t.toNat []).getD j 0 = 0 := by
    rcases pvM_spec (rows.getD t.toNat []) with ⟨e, _⟩ | ⟨i, e1, _, e3, e4⟩
    · rw [e] at hpv; exact absurd hpv (by omega)
    · have : i = p := by omega
      subst this
      exact ⟨e3, e4⟩
  unfold rwsD at *
  subst_eqs
  refine while_to (S := Nat) (fun k => [_, _, _, .st (.int (k : Nat)), _, _, _, _, _, _]) (fun k => k ≤ p) (fun k => p - k) p ?_ ?_ 0 (Nat.zero_le _)
  rotate_left
  · intro k K1 N hk hK hN
    have hkl : k < (rows.getD t.toNat []).length := by omega
    have hat := at_int (r := rows.getD t.toNat []) hkl
    have hres := res_get hr0 k
    have next : k ≠ p → K1 [.wk (.lst (rows.map lI)), .wk (.int t), .wk (.int columns), .st (.int ((k : Int) + 1)), .no, .no, .no, .no, .no, .no] := fun hne => hK (k + 1) (by omega) (by omega)
    subst_eqs
    by_cases c1 : (k : Int) < columns - 1
    · rw [if_pos c1]
      refine ⟨_, hrow, _, rfl, _, hat, .inl ⟨_, rfl, by decide, ?_⟩⟩
      by_cases c2 : k = p
      · rw [if_neg (by rw [c2] at hres ⊢; have := hlead.1; omega)]
        exact hN c2
      · rw [if_pos (by rw [hlead.2 k (by omega)]; rfl)]
        exact next c2
    · rw [if_neg c1]
      exact hN (by omega)
  subst_eqs
  have hatp := at_int (r := rows.getD t.toNat []) (j := p) (by omega)
  have hresp := res_get hr0 p
  refine ⟨_, hrow, _, rfl, _, hatp, ?_⟩
  refine ⟨_, rfl, by have := hlead.1; omega, hresp.2, fun k hk1 hk2 hk3 => ?_⟩
  have hkv : k = invM ((rows.getD t.toNat []).getD p 0) := (invM_of (by omega) hk2 (by rw [Int.mul_comm]; exact hk3)).symm
  refine ⟨_, hrow, _, rfl, ?_⟩
  refine lcW_map (α := Int) D.int (fun a => D.int ((k * a) % 97)) (rows.getD t.toNat []) 0 _ (le_size (by omega)) ?_ ?_
  · intro x hx L1 L2 h
    have := hr0 x hx
    subst_eqs
    exact ⟨.inl ⟨by omega, by omega⟩, .inl ⟨by decide, h⟩⟩
  have hown : (rows.getD t.toNat []).map (fun a => D.int ((k * a) % 97)) = (nrm p (rows.getD t.toNat [])).map D.int := by
    unfold nrm
    rw [Int.toNat_natCast, ← hkv, List.map_map]
    rfl
  rw [hown]
  have hol : (nrm p (rows.getD t.toNat [])).length = columns := by rw [nrm_len, hl0]
  have hor := nrm_res p (rows.getD t.toNat [])
  have hcon : ∀ r ∈ rows, conR (lotB rows [t]) columns r = ((rgI 0 columns).filter fun j => !decide (j = (p : Int))).map fun j => (r.getD j.toNat 0 - r.getD p 0 * (nrm p (rows.getD t.toNat [])).getD j.toNat 0) % 97 := by
    intro r hr
    have hrl := ht.l r hr
    unfold conR othM
    rw [hB]
    have e1 : redM r [((p : Int), nrm p (rows.getD t.toNat []))] = (rgI 0 columns).map fun j => (r.getD j.toNat 0 - r.getD p 0 * (nrm p (rows.getD t.toNat [])).getD j.toNat 0) % 97 := by
      rw [redM_res (ht.m r hr)]
      exact clr_eq hrl hol (ht.m r hr)
    rw [e1]
    have e2 : ((rgI 0 columns).filter fun c => !decide (c ∈ [((p : Int), nrm p (rows.getD t.toNat []))].map (·.1))) = (rgI 0 columns).filter fun j => !decide (j = (p : Int)) := List.filter_congr fun c _ => by simp
    rw [e2]
    refine List.map_congr_left fun c hc => ?_
    have hc := mem_rgI.mp (List.mem_filter.mp hc).1
    rw [List.getD_eq_getElem?_getD, List.getElem?_map]
    have : (rgI 0 columns)[c.toNat]? = some c := by
      unfold rgI
      rw [List.getElem?_map, List.getElem?_range (by omega)]
      show some (0 + ((c.toNat : Nat) : Int)) = some c
      congr 1
      omega
    rw [this]
    rfl
  intro a
  refine forW_inv2 (α := Rw) (S := List Rw × Sl × Sl) lI (fun s => [_, _, _, _, _, _, _, .ow a (s.1.map lI), s.2.1, s.2.2]) (fun ys xs s => ys ++ xs = rows ∧ s.1 = ys.map (conR (lotB rows [t]) columns)) ?_ ?_ rows [] ([], .no, .no) ⟨rfl, rfl⟩
  · intro ys s ⟨h1, h2⟩
    rw [List.append_nil] at h1
    subst_eqs
    rw [h2, h1]
    exact q
  · intro ys r xs s J ⟨h1, h2⟩ hJ
    have hrm : r ∈ rows := by rw [← h1]; exact List.mem_append_right _ List.mem_cons_self
    have hrl := ht.l r hrm
    have hrr := ht.m r hrm
    have hlen : ys.length + (xs.length + 1) = rows.length := by rw [← h1, List.length_append, List.length_cons]
    have nx := hJ (s.1 ++ [conR (lotB rows [t]) columns r], .st (lI r), s.2.2) ⟨by rw [List.append_assoc]; exact h1, by rw [List.map_append, h2]; rfl⟩
    have htr := ht.r
    have hsl : s.1.length = ys.length := by rw [h2, List.length_map]
    have hce := hcon r hrm
    have hcm : (((rgI 0 columns).filter fun j => !decide (j = (p : Int))).map fun j => D.int ((r.getD j.toNat 0 - r.getD p 0 * (nrm p (rows.getD t.toNat [])).getD j.toNat 0) % 97)) = (conR (lotB rows [t]) columns r).map D.int := by rw [hce, List.map_map]; rfl
    have rp := res_get hrr p
    have hatr := at_int (r := r) (j := p) (by omega)
    unfold lI at *
    subst_eqs
    refine ⟨⟨by omega, by omega⟩, ?_⟩
    rw [rngD_rgI0]
    refine lcW_filter (α := Int) D.int (fun j => .int ((r.getD j.toNat 0 - r.getD p 0 * (nrm p (rows.getD t.toNat [])).getD j.toNat 0) % 97)) (fun j => !decide (j = (p : Int))) (rgI 0 columns) 0 _ (le_size (by rw [rgI_len]; omega)) ?_ ?_
    · intro j hj L1 L2 h
      have a1 := at_rg hrl hj
      have a2 := at_rg hol hj
      have r2 := res_get hor j.toNat
      subst_eqs
      by_cases c : (!decide (j = (p : Int))) = true
      · rw [if_pos c] at h ⊢
        exact ⟨_, a1, _, hatr, _, a2, _, rfl, _, rfl, .inl ⟨by omega, by omega⟩, _, rfl, .inl ⟨by decide, h⟩⟩
      · rw [if_neg c] at h ⊢
        exact h
    · rw [hcm]
      refine ⟨lt_size (by rw [List.length_map]; omega), ?_⟩
      simp only [List.map_append, List.map_cons, List.map_nil] at nx
      exact nx
def lfS (rows : List Rw) (columns : Nat) (ask : List Int) (b : Option Item) (i : Item) : Option Item :=
  if (match b with | none => true | some j => bef i j) = true ∧ (elF columns (lotR rows i.2 ++ lotR rows ask)).isEmpty = true then some i else b
def g_lfst : GD := fun ds Q => ∃ (rows : List Rw) (columns : Nat) (items : List Item) (ask : List Int), ds = [rwsD rows, .int columns, .lst (items.map itD), tI ask] ∧ TabOk rows columns ∧ (∀ i ∈ items, i.2.length ≤ 20 ∧ Ins rows i.2) ∧ ask.length ≤ 20 ∧ Ins rows ask ∧ Q (optD (items.foldl (lfS rows columns ask) none))
theorem sc__law_first : FnScope ["rows", "columns", "items", "ask", "best", "item", "x"] ["rows", "columns", "items", "ask"] (defScope (top 52)) := ⟨rfl, rfl, rfl, by decide +kernel, rfl, by decide +kernel, by decide +kernel⟩
theorem u__law_first (T : Txt K mg CT CS CB) : Use P w K mg base "_law_first" 5 [false, false, false, false] g_lfst := by
  have S := sc__law_first
  refine T.f__law_first.use (k := 4) S rfl fun f cdv A outer s H E hr => ⟨_, _, (dss_cons (ds_set (i := 4) S.nd de_non)
      (dss_cons (ds_for PassesOwn.never rfl (dip_nmK (K := K) 2) (dg_name (i := 5) S.nd) (dss_one (ds_if (DTW.t (dw_or (dt_cmp op_isN lo_isN (dr 4) (DE.w de_non) (nomark _)) (dw_or1 (dt_val (Use.deK (K := K) (u__law_before T) hr (da_wk (dr 5) (da_wk (dr 4) da_nil))))))) (dss_one (ds_if (dt_val (Use.deK (K := K) (u__law_free T) hr (da_wk (DF.w (df_op op_cat lo_catL (DF.w (df_lc (own := [("x", 6)]) rfl S.nd (DIp.w (dip_seqK (K := K) (de_ixK (K := K) (dr 5) (DE.w de_int)))) (by kernel_rfl) (fun _ _ _ _ _ => (dg_name (i := 6) S.nd)) (fun _ _ _ _ _ => dts_nil) (fun _ _ _ _ _ => (de_ixK (K := K) (dr 0) (dr 6))))) (DF.w (df_lc (own := [("x", 6)]) rfl S.nd (DIp.w (dip_nmK (K := K) 3)) (by kernel_rfl) (fun _ _ _ _ _ => (dg_name (i := 6) S.nd)) (fun _ _ _ _ _ => dts_nil) (fun _ _ _ _ _ => (de_ixK (K := K) (dr 0) (dr 6))))))) (da_wk (dr 1) da_nil)))) (dss_one (ds_set (i := 4) S.nd (dv 5))) dss_nil)) dss_nil)))
      (dss_one (ds_ret (dv 4))))), fun ds Q hl hg => ?_⟩
  obtain ⟨rows, columns, items, ask, rfl, ht, hit, hal, ha, q⟩ := hg
  unfold rwsD at *
  subst_eqs
  refine forW_inv (α := Item) (S := Option Item × Sl × Sl) itD (fun s => [_, _, _, _, .st (optD s.1), s.2.1, s.2.2]) (fun xs s => (items.foldl (lfS rows columns ask) none = xs.foldl (lfS rows columns ask) s.1) ∧ ∀ i ∈ xs, i ∈ items) ?_ ?_ items (none, .no, .no) ⟨rfl, fun i h => h⟩
  · intro s ⟨h, _⟩
    subst_eqs
    rw [h] at q
    exact q
  · intro i xs s J ⟨h1, h2⟩ hJ
    have hi := hit i (h2 i List.mem_cons_self)
    obtain ⟨b, s2, s3⟩ := s
    have htc := ht.c
    have hwr : ∀ r ∈ lotR rows i.2 ++ lotR rows ask, r.length = columns ∧ Res r := by
      intro r hr
      rcases List.mem_append.mp hr with h | h
      · exact ⟨lotR_len ht hi.2 r h, lotR_res ht r h⟩
      · exact ⟨lotR_len ht ha r h, lotR_res ht r h⟩
    have h1 : items.foldl (lfS rows columns ask) none = xs.foldl (lfS rows columns ask) (lfS rows columns ask b i) := h1
    have e1 : itD i = D.tup [D.int i.1, tI i.2] := rfl
    have yes := hJ (some i, .st (itD i), s3)
    have no := hJ (b, .st (itD i), s3)
    have hnx : ∀ j ∈ xs, j ∈ items := fun j hj => h2 j (List.mem_cons_of_mem _ hj)
    cases b with
    | none =>
      have e2 : lfS rows columns ask none i = if (elF columns (lotR rows i.2 ++ lotR rows ask)).isEmpty = true then some i else none := by
        unfold lfS
        simp
      rw [e2] at h1
      simp only [optD] at yes no ⊢
      rw [e1] at *
      unfold tI at *
      subst_eqs
      refine ⟨_, rfl, _, rfl, ?_⟩

      refine lcW_map (α := Int) D.int (fun x => lI (rows.getD x.toNat [])) i.2 0 _ (le_size (by omega)) ?_ ?_
      · intro x hx K1 K2 h
        have := get_row (hi.2 x hx).1 (hi.2 x hx).2
        unfold lI at this
        subst_eqs
        exact ⟨_, this, h⟩
      refine lcW_map (α := Int) D.int (fun x => lI (rows.getD x.toNat [])) ask 0 _ (le_size (by omega)) ?_ ?_
      · intro x hx K1 K2 h
        have := get_row (ha x hx).1 (ha x hx).2
        unfold lI at this
        subst_eqs
        exact ⟨_, this, h⟩
      refine ⟨by rw [List.length_map, List.length_map]; exact le_size (by omega), columns, lotR rows i.2 ++ lotR rows ask, ?_, by omega, by rw [List.length_append, lotR_n, lotR_n]; omega, fun r hr => (hwr r hr).1, fun r hr => (hwr r hr).2, _, rfl, ?_⟩
      · unfold rwsD lotR
        rw [List.map_append, List.map_map, List.map_map]
        rfl
      by_cases c : (elF columns (lotR rows i.2 ++ lotR rows ask)).isEmpty = true
      · rw [if_pos c] at h1 ⊢
        exact yes ⟨h1, hnx⟩
      · rw [if_neg c] at h1 ⊢
        exact no ⟨h1, hnx⟩
    | some j =>
      have e2 : lfS rows columns ask (some j) i = if bef i j = true then (if (elF columns (lotR rows i.2 ++ lotR rows ask)).isEmpty = true then some i else some j) else some j := by
        unfold lfS
        by_cases c : bef i j = true <;> simp [c]
      rw [e2] at h1
      simp only [optD] at yes no ⊢
      have nn : DL.isNon (itD j) = false := rfl
      subst_eqs
      rw [nn]
      simp only [Bool.false_eq_true, if_false]
      refine ⟨i, j, rfl, _, rfl, ?_⟩
      by_cases c1 : bef i j = true
      · rw [if_pos c1] at h1 ⊢
        rw [e1] at *
        unfold tI at *
        subst_eqs
        refine ⟨_, rfl, _, rfl, ?_⟩
        refine lcW_map (α := Int) D.int (fun x => lI (rows.getD x.toNat [])) i.2 0 _ (le_size (by omega)) ?_ ?_
        · intro x hx K1 K2 h
          have := get_row (hi.2 x hx).1 (hi.2 x hx).2
          unfold lI at this
          subst_eqs
          exact ⟨_, this, h⟩
        refine lcW_map (α := Int) D.int (fun x => lI (rows.getD x.toNat [])) ask 0 _ (le_size (by omega)) ?_ ?_
        · intro x hx K1 K2 h
          have := get_row (ha x hx).1 (ha x hx).2
          unfold lI at this
          subst_eqs
          exact ⟨_, this, h⟩
        refine ⟨by rw [List.length_map, List.length_map]; exact le_size (by omega), columns, lotR rows i.2 ++ lotR rows ask, ?_, by omega, by rw [List.length_append, lotR_n, lotR_n]; omega, fun r hr => (hwr r hr).1, fun r hr => (hwr r hr).2, _, rfl, ?_⟩
        · unfold rwsD lotR
          rw [List.map_append, List.map_map, List.map_map]
          rfl
        by_cases c : (elF columns (lotR rows i.2 ++ lotR rows ask)).isEmpty = true
        · rw [if_pos c] at h1 ⊢
          exact yes ⟨h1, hnx⟩
        · rw [if_neg c] at h1 ⊢
          exact no ⟨h1, hnx⟩
      · rw [if_neg c1] at h1 ⊢
        exact no ⟨h1, hnx⟩
end K87
end
section
set_option Elab.async false
set_option linter.all false
/-! M26: grown lists; the first fit. -/
namespace K87
open K87M
/-! ### growing keeps the order -/
def insL (t : Int) : List Int → List Int
  | [] => [t]
  | x :: xs => if t < x then t :: x :: xs else x :: insL t xs
theorem insL_perm (t : Int) : ∀ l : List Int, (insL t l).Perm (t :: l)
  | [] => List.Perm.refl _
  | x :: xs => by
    unfold insL
    split
    · exact List.Perm.refl _
    · exact ((insL_perm t xs).cons x).trans (List.Perm.swap _ _ _)
theorem insL_asc {t : Int} : ∀ {l : List Int}, Asc l → t ∉ l → Asc (insL t l)
  | [], _, _ => List.pairwise_singleton _ _
  | x :: xs, h, hn => by
    have h2 := List.pairwise_cons.mp h
    unfold insL
    split
    · rename_i c
      refine List.pairwise_cons.mpr ⟨fun y hy => ?_, h⟩
      rcases List.mem_cons.mp hy with rfl | hy
      · exact c
      · have := h2.1 y hy; omega
    · rename_i c
      refine List.pairwise_cons.mpr ⟨fun y hy => ?_, insL_asc h2.2 fun z => hn (List.mem_cons_of_mem _ z)⟩
      rcases List.mem_cons.mp ((insL_perm t xs).subset hy) with rfl | hy
      · have : y ≠ x := fun e => hn (by rw [e]; exact List.mem_cons_self)
        omega
      · exact h2.1 y hy
theorem srt_ins {t : Int} {l : List Int} (h : Asc l) (hn : t ∉ l) : srtM (l ++ [t]) = insL t l :=
  (srtM_eq ((insL_perm t l).trans (List.perm_append_singleton t l).symm) ((insL_asc h hn).imp fun h => by omega)).symm
theorem insL_lt {t : Int} : ∀ {a b : List Int}, a.length = b.length → t ∉ a → t ∉ b → a < b → insL t a < insL t b
  | [], [], _, _, _, h => absurd h (by simp)
  | [], _ :: _, h, _, _, _ => by cases h
  | _ :: _, [], h, _, _, _ => by cases h
  | x :: xs, y :: ys, hl, ha, hb, h => by
    have hl2 : xs.length = ys.length := by simpa using hl
    have hx : t ≠ x := fun e => ha (by rw [e]; exact List.mem_cons_self)
    have hy : t ≠ y := fun e => hb (by rw [e]; exact List.mem_cons_self)
    unfold insL
    rcases List.cons_lt_cons_iff.mp h with c | ⟨c, h2⟩
    · by_cases c1 : t < x
      · rw [if_pos c1, if_pos (by omega)]
        exact List.cons_lt_cons_iff.mpr (.inr ⟨rfl, h⟩)
      · rw [if_neg c1]
        by_cases c2 : t < y
        · rw [if_pos c2]
          exact List.cons_lt_cons_iff.mpr (.inl (by omega))
        · rw [if_neg c2]
          exact List.cons_lt_cons_iff.mpr (.inl c)
    · subst c
      by_cases c1 : t < x
      · rw [if_pos c1, if_pos c1]
        exact List.cons_lt_cons_iff.mpr (.inr ⟨rfl, h⟩)
      · rw [if_neg c1, if_neg c1]
        exact List.cons_lt_cons_iff.mpr (.inr ⟨rfl, insL_lt hl2 (fun z => ha (List.mem_cons_of_mem _ z)) (fun z => hb (List.mem_cons_of_mem _ z)) h2⟩)
theorem apM_one {l : List Int} {t : Int} : apM l [t] = true ↔ t ∉ l := by
  unfold apM
  rw [List.all_eq_true]
  constructor
  · intro h z
    have := h t z
    simp at this
  · intro h x hx
    have : x ≠ t := fun e => h (e ▸ hx)
    simp [this]
theorem gro_lot {worth t : Int} {i : Item} (ha : Asc i.2) (hn : t ∉ i.2) : (gro worth t i).2 = insL t i.2 := srt_ins ha hn
theorem gro_bef {worth t : Int} {n : Nat} {i j : Item} (hi : i.2.length = n ∧ Asc i.2 ∧ t ∉ i.2) (hj : j.2.length = n ∧ Asc j.2 ∧ t ∉ j.2) (h : bef i j = true) : bef (gro worth t i) (gro worth t j) = true := by
  unfold bef at h ⊢
  rw [gro_lot hi.2.1 hi.2.2, gro_lot hj.2.1 hj.2.2]
  show (if i.1 + worth ≠ j.1 + worth then decide (j.1 + worth < i.1 + worth) else decide (insL t i.2 < insL t j.2)) = true
  by_cases c : i.1 = j.1
  · rw [if_neg (by omega)] at h
    rw [if_neg (by omega)]
    exact decide_eq_true (insL_lt (hi.1.trans hj.1.symm) hi.2.2 hj.2.2 (of_decide_eq_true h))
  · rw [if_pos c] at h
    have := of_decide_eq_true h
    rw [if_pos (by omega)]
    exact decide_eq_true (by omega)
theorem sorted_rk {l : List Item} (h : SortedR l) : rkM l = l := sortedR_uniq (rkM_spec l).1 h (rkM_spec l).2
theorem sorted_gro {worth t : Int} {n : Nat} {l : List Item} (h : SortedR l) (hl : ∀ i ∈ l, i.2.length = n ∧ Asc i.2 ∧ t ∉ i.2) : SortedR (l.map (gro worth t)) :=
  List.pairwise_map.mpr (List.Pairwise.imp_of_mem (fun {a b} ha hb hab => gro_bef (hl a ha) (hl b hb) hab) h)
/-- what is asked of the items -/
def ItOk (n count : Nat) (items : List Item) : Prop := ∀ i ∈ items, i.2.length = n ∧ Asc i.2 ∧ ∀ x ∈ i.2, 0 ≤ x ∧ x < count
theorem rk_grs {items : List Item} {t worth : Int} {n count : Nat} (h : ItOk n count items) : rkM (grs items t worth) = ((rkM items).filter fun i => apM i.2 [t]).map (gro worth t) := by
  obtain ⟨r1, r2⟩ := rkM_spec items
  obtain ⟨g1, g2⟩ := rkM_spec (grs items t worth)
  have hl : ∀ i ∈ (rkM items).filter fun i => apM i.2 [t], i.2.length = n ∧ Asc i.2 ∧ t ∉ i.2 := fun i hi => by
    obtain ⟨h1, h2⟩ := List.mem_filter.mp hi
    have := h i ((r2 i).mp h1)
    exact ⟨this.1, this.2.1, apM_one.mp h2⟩
  refine sortedR_uniq g1 (sorted_gro (n := n) (List.Pairwise.filter _ r1) hl) fun x => ?_
  rw [g2]
  unfold grs
  rw [List.mem_map, List.mem_map]
  constructor
  · rintro ⟨i, hi, e⟩
    exact ⟨i, List.mem_filter.mpr ⟨(r2 i).mpr (List.mem_filter.mp hi).1, (List.mem_filter.mp hi).2⟩, e⟩
  · rintro ⟨i, hi, e⟩
    exact ⟨i, List.mem_filter.mpr ⟨(r2 i).mp (List.mem_filter.mp hi).1, (List.mem_filter.mp hi).2⟩, e⟩
theorem rk_rk (items : List Item) : rkM (rkM items) = rkM items := sorted_rk (rkM_spec items).1
theorem kep_rk (rows : List Rw) (columns : Nat) (items : List Item) : kepM rows columns (rkM items) = kepM rows columns items := by
  unfold kepM
  rw [rk_rk]
/-- lots with the thing count for nothing behind contracting by it -/
theorem zero_at {rows : List Rw} {columns : Nat} {t : Int} {i : Item} (ht : TabOk rows columns) (hi : Ins rows [t]) (hg : RfGo [] (lotR rows [t])) (hs : Ins rows i.2) (hm : t ∈ i.2) : ∀ j, vR (itR (conM rows columns [t]) (conC rows columns [t]) i) j = 0 := by
  intro j
  cases hk : (chs (conC rows columns [t]) (lotR (conM rows columns [t]) i.2).length)[j]? with
  | none => exact vR_mnM_off _ _ j hk
  | some c =>
    rw [show vR (itR (conM rows columns [t]) (conC rows columns [t]) i) j = dL ((lotR (conM rows columns [t]) i.2).map vR) c from vR_mnM _ _ j hk]
    refine dL_dep (fun z => ?_) c
    obtain ⟨s, e, hse⟩ := List.append_of_mem hm
    have hz := (con_ind ht hi hg hs).mp z
    have p : ((lotR rows [t]).map vR ++ (lotR rows i.2).map vR).Perm (vR (rows.getD t.toNat []) :: vR (rows.getD t.toNat []) :: ((lotR rows s).map vR ++ (lotR rows e).map vR)) := by
      rw [hse, lotR_app, List.map_append]
      show (vR (rows.getD t.toNat []) :: ((lotR rows s).map vR ++ vR (rows.getD t.toNat []) :: (lotR rows e).map vR)).Perm _
      exact List.Perm.cons _ List.perm_middle
    exact (hz.perm p).1 Sp.head
/-- the kept list of the grown items is grown from the kept list behind contracting -/
theorem grow_keep {rows : List Rw} {columns n : Nat} {t worth : Int} {items : List Item} (ht : TabOk rows columns) (hi : Ins rows [t]) (hg : RfGo [] (lotR rows [t])) (ho : ItOk n rows.length items) :
    kepM rows columns (grs items t worth) = (kepM (conM rows columns [t]) (conC rows columns [t]) items).map (gro worth t) ∧ ∀ i ∈ kepM (conM rows columns [t]) (conC rows columns [t]) items, i ∈ items ∧ t ∉ i.2 := by
  have hok : ∀ i ∈ rkM items, i.2.length = n ∧ Asc i.2 ∧ ∀ x ∈ i.2, 0 ≤ x ∧ x < rows.length := fun i h => ho i (((rkM_spec items).2 i).mp h)
  have hgl : ∀ i ∈ grs items t worth, i.2.length = n + 1 := fun i h => by
    obtain ⟨j, hj, rfl⟩ := List.mem_map.mp h
    have := ho j (List.mem_filter.mp hj).1
    show (srtM (j.2 ++ [t])).length = n + 1
    rw [(srtM_perm _).length_eq, List.length_append, this.1]
    rfl
  have e1 := kep_keep (rows := rows) (columns := columns) hgl
  have e2 := kep_keep (rows := conM rows columns [t]) (columns := conC rows columns [t]) (size := n) fun i h => (ho i h).1
  have e3 := keepG_filter (M := fun x => vR (itR (conM rows columns [t]) (conC rows columns [t]) x)) (p := fun i : Item => apM i.2 [t]) (rkM items) [] fun x hx hp j => by
    have hx := hok x hx
    refine zero_at ht hi hg hx.2.2 (Classical.byContradiction fun z => ?_) j
    rw [apM_one.mpr z] at hp
    cases hp
  have e4 : ([] : List Item).filter (fun i : Item => apM i.2 [t]) = [] := rfl
  rw [e4] at e3
  have hfl : ∀ i ∈ (rkM items).filter fun i => apM i.2 [t], i.2.length = n ∧ Ins rows i.2 := fun i h => by
    have := hok i (List.mem_filter.mp h).1
    exact ⟨this.1, this.2.2⟩
  have e5 := keepG_map (M := fun x => vR (itR (conM rows columns [t]) (conC rows columns [t]) x)) (N := fun x => vR (itR rows columns x)) (g := gro worth t) ((rkM items).filter fun i => apM i.2 [t]) [] fun s x r e => by
    have hS : ∀ y, y = x ∨ y ∈ s → y.2.length = n ∧ Ins rows y.2 := fun y hy => hfl y (by
      rw [e]
      rcases hy with rfl | hy
      · exact List.mem_append_right _ List.mem_cons_self
      · exact List.mem_append_left _ hy)
    have := fam (worth := worth) ht hi hg hS
    rw [List.nil_append, List.map_map]
    exact this
  refine ⟨?_, fun i h => ?_⟩
  · rw [e1, e2, e3, rk_grs ho]
    exact e5
  · rw [e2, e3] at h
    have h := List.mem_filter.mp (keepG_mem h)
    exact ⟨((rkM_spec items).2 i).mp h.1, apM_one.mp h.2⟩
theorem keep_sorted {rows : List Rw} {columns size : Nat} {items : List Item} (hs : ∀ i ∈ items, i.2.length = size) : SortedR (kepM rows columns items) := by
  rw [kep_keep hs]
  exact List.Pairwise.sublist (keepG_sub _ _) (rkM_spec items).1
/-! ### the first fit -/
/-- r is the first of l that fits -/
def Fst (l : List Item) (f : Item → Bool) : Option Item → Prop
  | none => ∀ x ∈ l, f x = false
  | some i => i ∈ l ∧ f i = true ∧ ∀ x ∈ l, f x = true → x = i ∨ bef i x = true
theorem fst_uniq {l : List Item} {f : Item → Bool} {r s : Option Item} (h1 : Fst l f r) (h2 : Fst l f s) : r = s := by
  cases r with
  | none =>
    cases s with
    | none => rfl
    | some j => have := h1 j h2.1; rw [h2.2.1] at this; cases this
  | some i =>
    cases s with
    | none => have := h2 i h1.1; rw [h1.2.1] at this; cases this
    | some j =>
      rcases h1.2.2 j h2.1 h2.2.1 with e | e
      · rw [e]
      · rcases h2.2.2 i h1.1 h1.2.1 with e2 | e2
        · rw [e2]
        · have := bef_trans e e2
          rw [bef_irrefl] at this
          cases this
theorem find_fst {f : Item → Bool} : ∀ {l : List Item}, SortedR l → Fst l f (l.find? f)
  | [], _ => fun x h => nomatch h
  | i :: l, h => by
    have h2 := List.pairwise_cons.mp h
    rw [List.find?_cons]
    cases c : f i with
    | true => exact ⟨List.mem_cons_self, c, fun x hx _ => by
        rcases List.mem_cons.mp hx with rfl | hx
        · exact .inl rfl
        · exact .inr (h2.1 x hx)⟩
    | false =>
      show Fst (i :: l) f (l.find? f)
      have ih := find_fst (f := f) h2.2
      cases e : l.find? f with
      | none =>
        rw [e] at ih
        intro x hx
        rcases List.mem_cons.mp hx with rfl | hx
        · exact c
        · exact ih x hx
      | some j =>
        rw [e] at ih
        exact ⟨List.mem_cons_of_mem _ ih.1, ih.2.1, fun x hx hf => by
          rcases List.mem_cons.mp hx with rfl | hx
          · rw [c] at hf; cases hf
          · exact ih.2.2 x hx hf⟩
theorem fst_mem {l m : List Item} {f : Item → Bool} {r : Option Item} (h : ∀ x, x ∈ l ↔ x ∈ m) (hf : Fst l f r) : Fst m f r := by
  cases r with
  | none => exact fun x hx => hf x ((h x).mpr hx)
  | some i => exact ⟨(h i).mp hf.1, hf.2.1, fun x hx => hf.2.2 x ((h x).mpr hx)⟩
theorem ff_fst (rows : List Rw) (items : List Item) (ask : List Int) : Fst items (fun i => freeM rows (i.2 ++ ask)) (ffM rows items ask) :=
  fst_mem (rkM_spec items).2 (find_fst (rkM_spec items).1)
theorem fold_fst {rows : List Rw} {columns : Nat} {ask : List Int} {f : Item → Bool} : ∀ (items ys : List Item) (b : Option Item), (∀ i ∈ items, f i = (elF columns (lotR rows i.2 ++ lotR rows ask)).isEmpty) → Fst ys f b → Fst (ys ++ items) f (items.foldl (lfS rows columns ask) b)
  | [], ys, b, _, h => by rw [List.append_nil]; exact h
  | i :: items, ys, b, hf, h => by
    have h0 := hf i List.mem_cons_self
    have step : Fst (ys ++ [i]) f (lfS rows columns ask b i) := by
      unfold lfS
      rw [← h0]
      cases c : f i with
      | false =>
        rw [if_neg fun z => by cases z.2]
        cases b with
        | none =>
          intro x hx
          rcases List.mem_append.mp hx with hx | hx
          · exact h x hx
          · rw [List.mem_singleton.mp hx]; exact c
        | some j =>
          refine ⟨List.mem_append_left _ h.1, h.2.1, fun x hx hfx => ?_⟩
          rcases List.mem_append.mp hx with hx | hx
          · exact h.2.2 x hx hfx
          · rw [List.mem_singleton.mp hx, c] at hfx; cases hfx
      | true =>
        cases b with
        | none =>
          rw [if_pos ⟨rfl, rfl⟩]
          refine ⟨List.mem_append_right _ List.mem_cons_self, c, fun x hx hfx => ?_⟩
          rcases List.mem_append.mp hx with hx | hx
          · rw [h x hx] at hfx; cases hfx
          · exact .inl (List.mem_singleton.mp hx)
        | some j =>
          by_cases d : bef i j = true
          · rw [if_pos ⟨d, rfl⟩]
            refine ⟨List.mem_append_right _ List.mem_cons_self, c, fun x hx hfx => ?_⟩
            rcases List.mem_append.mp hx with hx | hx
            · rcases h.2.2 x hx hfx with e | e
              · rw [e]; exact .inr d
              · exact .inr (bef_trans d e)
            · exact .inl (List.mem_singleton.mp hx)
          · rw [if_neg fun z => d z.1]
            refine ⟨List.mem_append_left _ h.1, h.2.1, fun x hx hfx => ?_⟩
            rcases List.mem_append.mp hx with hx | hx
            · exact h.2.2 x hx hfx
            · rw [List.mem_singleton.mp hx]
              by_cases e : i = j
              · exact .inl e
              · rcases bef_total e with z | z
                · exact absurd z d
                · exact .inr z
    have ih := fold_fst items (ys ++ [i]) _ (fun j hj => hf j (List.mem_cons_of_mem _ hj)) step
    rw [List.append_assoc] at ih
    exact ih
theorem free_el {rows : List Rw} {columns : Nat} {a b : List Int} (ht : TabOk rows columns) (ha : Ins rows a) (hb : Ins rows b) : freeM rows (a ++ b) = (elF columns (lotR rows a ++ lotR rows b)).isEmpty := by
  have hab : Ins rows (a ++ b) := fun x hx => (List.mem_append.mp hx).elim (ha x) (hb x)
  rw [Bool.eq_iff_iff]
  have a1 : freeM rows (a ++ b) = true ↔ Ind ((lotR rows (a ++ b)).map vR) := indM_ind (lotR_len ht hab)
  rw [a1, ← lotR_app, elF_ind (lotR_len ht hab) (lotR_res ht)]
/-- the kept list answers as all items do -/
theorem kept_fst {rows : List Rw} {columns size : Nat} {items : List Item} {ask : List Int} (ht : TabOk rows columns) (hs : ∀ i ∈ items, i.2.length = size ∧ Ins rows i.2) (ha : Ins rows ask) {r : Option Item} (h : Fst items (fun i => freeM rows (i.2 ++ ask)) r) : Fst (kepM rows columns items) (fun i => freeM rows (i.2 ++ ask)) r := by
  have hsub : ∀ x ∈ kepM rows columns items, x ∈ items := fun x hx => by
    rw [kep_keep fun i hi => (hs i hi).1] at hx
    exact ((rkM_spec items).2 x).mp (keepG_mem hx)
  cases r with
  | none => exact fun x hx => h x (hsub x hx)
  | some i =>
    refine ⟨Classical.byContradiction fun hn => ?_, h.2.1, fun x hx hf => h.2.2 x (hsub x hx) hf⟩
    rw [kep_keep fun i hi => (hs i hi).1] at hn
    obtain ⟨s, t, e⟩ := List.append_of_mem (((rkM_spec items).2 i).mpr h.1)
    have hsp := keepG_not (M := fun x => vR (itR rows columns x)) (pre := []) e hn
    have hin : ∀ x ∈ s, x ∈ items := fun x hx => ((rkM_spec items).2 x).mp (by rw [e]; exact List.mem_append_left _ hx)
    have hii := hs i h.1
    have iab : Ins rows (i.2 ++ ask) := fun x hx => (List.mem_append.mp hx).elim (hii.2 x) (ha x)
    obtain ⟨x, hx, hxi⟩ := rep ht hii (fun x hx => hs x (hin x hx)) ha hsp ((indM_ind (lotR_len ht iab)).mp h.2.1)
    have hxx := hs x (hin x hx)
    have xab : Ins rows (x.2 ++ ask) := fun y hy => (List.mem_append.mp hy).elim (hxx.2 y) (ha y)
    have hb : bef x i = true := by
      have r1 := (rkM_spec items).1
      rw [e] at r1
      exact (List.pairwise_append.mp r1).2.2 x hx i List.mem_cons_self
    rcases h.2.2 x (hin x hx) ((indM_ind (lotR_len ht xab)).mpr hxi) with z | z
    · rw [z, bef_irrefl] at hb; cases hb
    · have := bef_trans hb z
      rw [bef_irrefl] at this
      cases this
end K87
end
section
set_option Elab.async false
set_option linter.all false
set_option maxRecDepth 100000
/-! K33: the refusal of one thing. -/
namespace K87
open PySem PySem.Spec PyProof.Rows L2 DL SN
variable {P : Program} {w : World} {K : PySem.W.Frag} {mg : Str → Option Value} {base : Heap} {CT CS CB : Addr}
local macro_rules | `(tactic| subst_eqs) => `(tactic| try simp only [wSeq, wNext, wFor, wRng1, wRng2, wRd, wSt, wC, gNm, gTp, gsNil, gsCons, wLc, wLc2, wSeqI, wPs, wYes, wIf, wIfS, wTru, wTest, wAnd, wOr, wNot, wAndV, wOrV, wNotV, wOp, wI0, wI, wIx, wUn, wNeg, wCatT, wCB, wCF, wOpF, wCatL, wRepL, wLen, wIntOf, wMM, wListOf, wTupOf, wSorted, wK, wCons, wNil, wPar, wNoPart, wPart, wEn, wEnN, wEnT, wZp, wInI, wInT, wIsN, wNotN, wDGet, wMeth, wMake, wFldC, wCon, wIsi,
  rdSl_st, rdSl_wk, rdSl_ow, rdSl_oT, stSl_st, stSl_wk, truD_bl, truD_int, truD_lst, truD_tup, truD_non, lenD_lst, lenD_tup, lenD_scr, walkD_lst, walkD_tup, seqD_lst, seqD_tup, seqD_scr, solid_int, solid_bl, solid_tup, solid_ins, solid_non, solid_str, isNon_non, isNon_lst, isNon_tup, isNon_int, isNon_bl, frz_ow0, frz_succ, frzS_st, frzS_wk, frzS_ow, frzS_oT, frzS_no,
  startD, startS, wipeD, List.set_cons_zero, List.set_cons_succ, List.getElem?_cons_zero, List.getElem?_cons_succ, List.length_cons, List.length_nil, List.cons_append, List.nil_append, List.map_cons, List.map_nil, List.replicate, Nat.reduceSub, Nat.reduceAdd, Option.some.injEq, Sl.st.injEq, Sl.wk.injEq, Sl.ow.injEq, Sl.oT.injEq, Sl.oI.injEq, D.int.injEq, D.lst.injEq, D.tup.injEq, D.bl.injEq, D.dT.injEq, D.ins.injEq, List.cons.injEq, exists_eq_left, exists_eq_left', exists_eq_right, exists_eq_right', exists_and_left, exists_and_right, and_assoc, decide_eq_true_eq, and_true, true_and, and_self, reduceIte, ite_true, ite_false, Bool.false_eq_true, reduceCtorEq, exists_false, false_and, and_false, exists_const, forall_const])

theorem takes0N {X : Cx} : L2N.Takes X (fun _ _ _ _ => False) := fun _ _ x => by
  obtain ⟨_, _, _, _, _, _, _, _, _, _, _, _, _, _, _, _, z⟩ := x
  exact z.elim
def g_refd1 (CT : Addr) : GD := fun ds Q => ∃ (rows : List Rw) (columns : Nat) (t : Int), ds = [tabD CT rows columns, .int t] ∧ TabOk rows columns ∧ (lotF rows.length 0 [t] = false ∨ freeM rows [t] = false) ∧ Q (.bl true)
theorem sc__law_refused : FnScope ["table", "thing", "e"] ["table", "thing"] (defScope (top 51)) := ⟨rfl, rfl, rfl, by decide +kernel, rfl, by decide +kernel, by decide +kernel⟩
theorem u__law_refused (T : Txt K mg CT CS CB) (XT : BadT P K mg CB) : Use P w K mg base "_law_refused" 8 [true, false] (g_refd1 CT) := by
  have S := sc__law_refused
  obtain ⟨f, fd, F, hm, hb⟩ := T.f__law_refused
  obtain ⟨fc, fdc, psc, cm, ck, cb, cF⟩ := r_contract (P := P) (w := w) (base := base) T XT
  obtain ⟨fs, fds, pss, sm, sk, sb, sF⟩ := uh__law_same (P := P) (w := w) (base := base) T 6
  obtain ⟨fI, cc, cda, XT⟩ := XT
  refine ⟨f, fd, _, hm, F.kp, hb, F.ok (k := 7) S (fun vs H Q E hs => hs.len) fun cdv A outer s H vs Q E hr hs => ?_⟩
  obtain ⟨B, ds, R, u, a, hg, q⟩ := hs
  refine ⟨_, pss_cons (L2N.ps_try_as (i := 2) rfl rfl S.nd rfl rfl ⟨rfl, by decide, .inl XT.gC⟩ takes0N
    (fun W pn xe tk _ => pss_one (ps_expr (pe_callS cF (hr.mono (by decide)) rfl cm ck cb (fun σ => L2N.passAt tk σ) (da_st (dv 0) (da_wk (DE.w (de_tup (da_st (DW.k (dr 1)) da_nil))) da_nil)).p)))
    (fun a oe cls d pn hz hf => pss_one (ps_ret (L2H.pe_callH (E := fun _ => E0) sF ⟨(hr.mono (by decide : 6 ≤ 7)).dp, (hr.mono (by decide : 6 ≤ 7)).un⟩ (hot_suite hz hf) rfl sm sk sb (fun σ pins H s e s' I h => h.elim) (pa_cons (pe_lotEx XT hz hf (pv 2)) (pa_cons (pe_tup (pa_cons (pv 1) pa_nil)) pa_nil)))))) pss_never, ?_⟩
  obtain ⟨rows, columns, t, rfl, ht, hor, qq⟩ := hg
  have hA : DA (cxOf CX0 P w K mg base ["table", "thing", "e"] "_law_refused" (defScope (top 51)) f cdv A outer s H E) [true, false] [.Name "table" ⟨0, 0, 0, 0⟩, .Tuple [.Name "thing" ⟨0, 0, 0, 0⟩] 0 ⟨0, 0, 0, 0⟩] _ _ := da_st (dv 0) (da_wk (DE.w (de_tup (da_st (DW.k (dr 1)) da_nil))) da_nil)
  show tCons (tVar 0) (tCons (tTup (tCons (tVar 1) tNil)) tNil) (L2.start ["table", "thing", "e"] vs) H (fun vs1 H1 => spR K CB [true, false] (g_conR CT) vs1 H1 _ _)
  refine hA.l H B B H _ _ (fun ds => ds = [tabD CT rows columns, tI [t]]) _ (start_env u a) ?_ (fun B1 H1 vs1 ds1 s1 r1 hd => ?_)
  · subst_eqs
    rfl
  subst hd
  refine ⟨B1, _, tI [t], s1.u, r1, ⟨rows, columns, [t], rfl, rfl, ht, by simp, hor⟩, fun B' H' d v st rv hn => ?_⟩
  have hp : plN 6 (tI [t]) := plN.tup (by simp) fun e he => by
    obtain ⟨i, _, rfl⟩ := List.mem_map.mp he
    exact plN.int i
  refine ⟨true, XT.te, fun _ ax hax => ?_, fun z => nomatch z⟩
  have st2 : Step B H B' (upd H' d (.xd [(("lot" : Str), v)])) := (s1.trans st).trans (Step.raw (s1.trans st).u hn)
  have rv2 : RepW K B' (upd H' d (.xd [(("lot" : Str), v)])) v (tI [t]) := rv.mono (Same.refl _) (same_upd hn)
  cases a with
  | st r0 a' =>
    cases a' with
    | wk rl a'' =>
      cases a''
      rename_i v0 v1
      have e1 : v1 = .int t := rl.int
      subst e1
      refine ⟨.ref ax, rfl, rfl, rfl, d, v, rfl, upd_same, .int t, rfl, le_size (by simp), fun p np => ?_⟩
      have s5 := Step.new (o := .tup [V.int t]) st2.u np
      have rt : Rep K (upd B' p (.tup [V.int t])) (.ref p) (tI [t]) := .tup upd_same (.cons (.int t) .nil)
      refine ⟨_, [tI [t], tI [t]], R, s5.u, .wk (rv2.mono s5.b s5.h) (.wk (.st rt) .nil), ⟨tI [t], tI [t], rfl, hp, hp, fun b hb => ?_⟩, fun B2 H2 v2 d2 s2 r2 p2 => q B2 H2 v2 d2 ((st2.trans s5).trans s2) r2 p2⟩
      rw [hb.mpr rfl]
      exact qq
end K87
end
section
set_option Elab.async false
set_option linter.all false
set_option maxRecDepth 100000
set_option maxHeartbeats 8000000
/-! the law's reading (printed by mkpure.py from the derivation). -/
namespace K87
open PySem PySem.Spec PyProof.Rows L2 DL SN
local macro_rules | `(tactic| subst_eqs) => `(tactic| try simp only [wSeq, wNext, wFor, wRng1, wRng2, wRd, wSt, wC, gNm, gTp, gsNil, gsCons, wLc, wLc2, wSeqI, wPs, wYes, wIf, wIfS, wTru, wTest, wAnd, wOr, wNot, wAndV, wOrV, wNotV, wOp, wI0, wI, wIx, wUn, wNeg, wCatT, wCB, wCF, wOpF, wCatL, wRepL, wLen, wIntOf, wMM, wListOf, wTupOf, wSorted, wK, wCons, wNil, wPar, wNoPart, wPart, wEn, wEnN, wEnT, wZp, wInI, wInT, wIsN, wNotN, wDGet, wMeth, wMake, wFldC, wCon, wIsi,
  rdSl_st, rdSl_wk, rdSl_ow, rdSl_oT, stSl_st, stSl_wk, truD_bl, truD_int, truD_lst, truD_tup, truD_non, lenD_lst, lenD_tup, lenD_scr, walkD_lst, walkD_tup, seqD_lst, seqD_tup, seqD_scr, solid_int, solid_bl, solid_tup, solid_ins, solid_non, solid_str, isNon_non, isNon_lst, isNon_tup, isNon_int, isNon_bl, frz_ow0, frz_succ, frzS_st, frzS_wk, frzS_ow, frzS_oT, frzS_no,
  startD, startS, wipeD, List.set_cons_zero, List.set_cons_succ, List.getElem?_cons_zero, List.getElem?_cons_succ, List.length_cons, List.length_nil, List.cons_append, List.nil_append, List.map_cons, List.map_nil, List.replicate, Nat.reduceSub, Nat.reduceAdd, Option.some.injEq, Sl.st.injEq, Sl.wk.injEq, Sl.ow.injEq, Sl.oT.injEq, Sl.oI.injEq, D.int.injEq, D.lst.injEq, D.tup.injEq, D.bl.injEq, D.dT.injEq, D.ins.injEq, List.cons.injEq, exists_eq_left, exists_eq_left', exists_eq_right, exists_eq_right', exists_and_left, exists_and_right, and_assoc, decide_eq_true_eq, and_true, true_and, and_self, reduceIte, ite_true, ite_false, Bool.false_eq_true, reduceCtorEq, exists_false, false_and, and_false, exists_const, forall_const])

theorem col_at {o : Int} (h0 : 0 ≤ o) (h1 : o < 20) : ∃ c : Nat, 0 < c ∧ c ≤ 6 ∧ atI [D.int 1, D.int 1, D.int 2, D.int 2, D.int 2, D.int 3, D.int 3, D.int 3, D.int 3, D.int 3, D.int 4, D.int 4, D.int 4, D.int 4, D.int 4, D.int 4, D.int 4, D.int 4, D.int 5, D.int 6] o = some (D.int (c : Int)) := by
  have : o = 0 ∨ o = 1 ∨ o = 2 ∨ o = 3 ∨ o = 4 ∨ o = 5 ∨ o = 6 ∨ o = 7 ∨ o = 8 ∨ o = 9 ∨ o = 10 ∨ o = 11 ∨ o = 12 ∨ o = 13 ∨ o = 14 ∨ o = 15 ∨ o = 16 ∨ o = 17 ∨ o = 18 ∨ o = 19 := by omega
  rcases this with rfl | rfl | rfl | rfl | rfl | rfl | rfl | rfl | rfl | rfl | rfl | rfl | rfl | rfl | rfl | rfl | rfl | rfl | rfl | rfl
  all_goals first | exact ⟨1, by decide, by decide, rfl⟩ | exact ⟨2, by decide, by decide, rfl⟩ | exact ⟨3, by decide, by decide, rfl⟩ | exact ⟨4, by decide, by decide, rfl⟩ | exact ⟨5, by decide, by decide, rfl⟩ | exact ⟨6, by decide, by decide, rfl⟩
theorem drawn7 {a b c d e f g : Int} {out : List Int} (h : Drawn [a, b, c, d, e, f, g] out) : ∃ x0 x1 x2 x3 x4 x5 x6 : Int, out = [x0, x1, x2, x3, x4, x5, x6] ∧ (0 ≤ x0 ∧ x0 < a) ∧ (0 ≤ x1 ∧ x1 < b) ∧ (0 ≤ x2 ∧ x2 < c) ∧ (0 ≤ x3 ∧ x3 < d) ∧ (0 ≤ x4 ∧ x4 < e) ∧ (0 ≤ x5 ∧ x5 < f) ∧ (0 ≤ x6 ∧ x6 < g) := by
  match out, h with
  | [x0, x1, x2, x3, x4, x5, x6], h => exact ⟨x0, x1, x2, x3, x4, x5, x6, rfl, h.at_ 0 (by simp), h.at_ 1 (by simp), h.at_ 2 (by simp), h.at_ 3 (by simp), h.at_ 4 (by simp), h.at_ 5 (by simp), h.at_ 6 (by simp)⟩
  | [], h => exact absurd h.len (by simp)
  | [_], h => exact absurd h.len (by simp)
  | [_, _], h => exact absurd h.len (by simp)
  | [_, _, _], h => exact absurd h.len (by simp)
  | [_, _, _, _], h => exact absurd h.len (by simp)
  | [_, _, _, _, _], h => exact absurd h.len (by simp)
  | [_, _, _, _, _, _], h => exact absurd h.len (by simp)
  | _ :: _ :: _ :: _ :: _ :: _ :: _ :: _ :: _, h => exact absurd h.len (by simp)
--MORE
theorem idx_len : ∀ (rows : List Rw) (k : Nat) (s : Bas × List Int), ((enL k rows).foldl idxS s).2.length ≤ s.2.length + rows.length
  | [], k, s => Nat.le_refl _
  | r :: rows, k, s => by
    have h := idx_len rows (k + 1) (idxS s (k, r))
    have h2 : (idxS s (k, r)).2.length ≤ s.2.length + 1 := by
      unfold idxS
      split
      · rw [List.length_append]; exact Nat.le_refl _
      · omega
    rw [List.length_cons]
    show ((enL (k + 1) rows).foldl idxS (idxS s (k, r))).2.length ≤ _
    omega
theorem kepM_len (rows : List Rw) (columns : Nat) (items : List Item) : (kepM rows columns items).length ≤ items.length := by
  have h := idx_len ((rkM items).map (itR rows columns)) 0 ([], [])
  have h2 := rkM_len (items := items)
  rw [List.length_map] at h
  unfold kepM
  rw [List.length_map]
  show ((enL 0 ((rkM items).map (itR rows columns))).foldl idxS ([], [])).2.length ≤ _
  have h : ((enL 0 ((rkM items).map (itR rows columns))).foldl idxS ([], [])).2.length ≤ 0 + (rkM items).length := h
  omega
theorem kepM_sub {rows : List Rw} {columns : Nat} {items : List Item} : ∀ i ∈ kepM rows columns items, i ∈ items := fun i hi => by
  obtain ⟨ix, hix, rfl⟩ := List.mem_map.mp hi
  have := idx_in _ ix hix
  rw [List.length_map] at this
  rw [List.getD_eq_getElem?_getD, List.getElem?_eq_getElem (by omega)]
  exact ((rkM_spec items).2 _).mp (List.getElem_mem _)
theorem pl_it {n : Nat} (i : Item) (h : i.2.length ≤ 100000) : plN (n + 3) (itD i) := by
  refine plN.tup (by simp) fun e he => ?_
  rcases List.mem_cons.mp he with rfl | he
  · exact plN.int _
  · rw [List.mem_singleton.mp he]
    refine plN.tup (by rw [List.length_map]; exact h) fun e he => ?_
    obtain ⟨x, _, rfl⟩ := List.mem_map.mp he
    exact plN.int _
theorem pl_items {items : List Item} (h : items.length ≤ 100000) (h2 : ∀ i ∈ items, i.2.length ≤ 100000) : plN 5 (.lst (items.map itD)) := by
  refine plN.lst (by rw [List.length_map]; exact h) fun e he => ?_
  obtain ⟨i, hi, rfl⟩ := List.mem_map.mp he
  exact pl_it i (h2 i hi)
theorem toPys_items : ∀ items : List Item, toPys (items.map itD) = some (items.map itP)
  | [] => by rw [List.map_nil, toPys]; rfl
  | i :: items => by rw [List.map_cons, toPys, toPys_items items, toPy_it]; rfl
theorem eqvAll_items : ∀ items : List Item, PyData.eqvAll (items.map itP) (items.map itP) = true
  | [] => rfl
  | i :: items => by
    show (PyData.eqv (itP i) (itP i) && PyData.eqvAll (items.map itP) (items.map itP)) = true
    rw [eqv_it, eqvAll_items items]
    simp
theorem layAll_items : ∀ items : List Item, PyData.canLayAll0 (items.map itP) = true
  | [] => by simp [PyData.canLayAll0]
  | i :: items => by
    have h : (itP i).canLay0 = true := by unfold itP; simp [PyData.canLay0, PyData.canLayAll0, lay_ints]
    simp [PyData.canLayAll0, h, layAll_items items]
theorem depthAll_items : ∀ items : List Item, PyData.depthAll (items.map itP) ≤ 8
  | [] => by simp [PyData.depthAll]
  | i :: items => by
    have h : (itP i).depth ≤ 8 := depth_pair _ _
    have h2 := depthAll_items items
    simp only [List.map_cons, PyData.depthAll]
    omega
theorem shaped_items (items : List Item) : SeqAt.shaped (.list (items.map itP)) = true := by
  unfold SeqAt.shaped
  rw [Bool.and_eq_true]
  refine ⟨by simp [PyData.canLay0, layAll_items], decide_eq_true ?_⟩
  have := depthAll_items items
  simp only [PyData.depth]
  omega
theorem toPy_items (items : List Item) : toPy (.lst (items.map itD)) = some (.list (items.map itP)) := by
  rw [toPy, toPys_items]
  rfl
theorem pl_rows (rs : List Rw) (h1 : rs.length ≤ 100) (h2 : ∀ r ∈ rs, r.length ≤ 100) : plN 6 (rwsD rs) := by
  refine plN.lst (by rw [List.length_map]; omega) fun e he => ?_
  obtain ⟨r, hr, rfl⟩ := List.mem_map.mp he
  refine plN.lst (by rw [List.length_map]; have := h2 r hr; omega) fun e he => ?_
  obtain ⟨i, _, rfl⟩ := List.mem_map.mp he
  exact plN.int i
theorem rows_all (rows' : List Rw) (n : Nat) (hn : n = rows'.length) : (rgI 0 n).map (fun x => rows'.getD x.toNat []) = rows' := by
  apply List.ext_getElem?
  intro k
  rw [List.getElem?_map]
  unfold rgI
  rw [List.getElem?_map, Int.sub_zero, Int.toNat_natCast]
  by_cases hk : k < n
  · rw [List.getElem?_range hk]
    show some (rows'.getD ((0 : Int) + (k : Nat)).toNat []) = _
    rw [Int.zero_add, Int.toNat_natCast, List.getD_eq_getElem?_getD, List.getElem?_eq_getElem (by omega)]
    rfl
  · rw [List.getElem?_eq_none (by rw [List.length_range]; omega), List.getElem?_eq_none (by omega)]
    rfl
theorem keepG_zero {α : Type} {M : α → K87M.Vec} : ∀ (rest pre : List α), (∀ x ∈ rest, ∀ j, M x j = 0) → keepG M pre rest = []
  | [], _, _ => by unfold keepG; rfl
  | i :: rest, pre, h => by
    rw [keepG_pos ((K87M.Sp.z _).ext fun j => (h i List.mem_cons_self j).symm)]
    exact keepG_zero rest _ fun x hx => h x (List.mem_cons_of_mem _ hx)
/-- a thing that is not free: no lot with it counts -/
theorem not_free_zero {rows : List Rw} {columns : Nat} {t : Int} {lot : List Int} (ht : TabOk rows columns) (hi : Ins rows [t]) (hn : ¬ RfGo [] (lotR rows [t])) (hm : t ∈ lot) : ∀ j, vR (mnM (lotR rows lot) columns) j = 0 := by
  intro j
  cases hk : (chs columns (lotR rows lot).length)[j]? with
  | none => exact vR_mnM_off _ _ j hk
  | some c =>
    rw [vR_mnM _ _ j hk]
    refine K87M.dL_dep (fun z => ?_) c
    obtain ⟨s, e, hse⟩ := List.append_of_mem hm
    have p : ((lotR rows lot).map vR).Perm (vR (rows.getD t.toNat []) :: ((lotR rows s).map vR ++ (lotR rows e).map vR)) := by
      rw [hse, lotR_app, List.map_append]
      exact List.perm_middle
    have h1 := (z.perm p).1
    have h2 : ¬ K87M.Ind ((lotR rows [t]).map vR) := fun w => hn ((rfgo_ind (lotR_len ht hi)).mpr w)
    refine h2 ⟨fun w => h1 ?_, trivial⟩
    exact w.trans fun u hu => nomatch hu
theorem pure_law {CT CS : Addr} {ns : List Int} {Q : D → Prop} (hns : ns.length ≤ 63) (q : Q (D.bl true)) :
  wSeq
      (fun P δ =>
        wCB g_draws
          (wCons (wCB g_cell (wCons (wRd 0) (wCons (wC (D.int 0)) wNil)))
            (wCons
              (fun δ P =>
                wCons (wC (D.int 4))
                  (wCons (wC (D.int 7))
                    (wCons (wC (D.int 20))
                      (wCons (wC (D.int 60))
                        (wCons (wC (D.int 17)) (wCons (wC (D.int 60)) (wCons (wC (D.int 7)) wNil))))))
                  δ fun ds => P (D.lst ds))
              wNil))
          δ fun d => P.nx (List.set δ 1 (Sl.st d)))
      (wSeq
        (fun P δ =>
          wOp wIx
            (fun δ P =>
              wCons (wC (D.int 1))
                (wCons (wC (D.int 1))
                  (wCons (wC (D.int 2))
                    (wCons (wC (D.int 2))
                      (wCons (wC (D.int 2))
                        (wCons (wC (D.int 3))
                          (wCons (wC (D.int 3))
                            (wCons (wC (D.int 3))
                              (wCons (wC (D.int 3))
                                (wCons (wC (D.int 3))
                                  (wCons (wC (D.int 4))
                                    (wCons (wC (D.int 4))
                                      (wCons (wC (D.int 4))
                                        (wCons (wC (D.int 4))
                                          (wCons (wC (D.int 4))
                                            (wCons (wC (D.int 4))
                                              (wCons (wC (D.int 4))
                                                (wCons (wC (D.int 4))
                                                  (wCons (wC (D.int 5)) (wCons (wC (D.int 6)) wNil)))))))))))))))))))
                δ fun ds => P (D.lst ds))
            (wOp wIx (wRd 1) (wC (D.int 2))) δ fun d => P.nx (List.set δ 2 (Sl.st d)))
        (wSeq
          (fun P δ =>
            wOp (wI (fun x j => 0 < j) fun i j => D.int (i % j)) (wOp wIx (wRd 1) (wC (D.int 3))) (wRd 2) δ fun d =>
              P.nx (List.set δ 3 (Sl.st d)))
          (wSeq
            (fun P δ =>
              wCB g_rows
                (wCons (wOp wIx (wRd 1) (wC (D.int 0)))
                  (wCons (wOp (wI0 fun i j => D.int (i + j)) (wC (D.int 1)) (wOp wIx (wRd 1) (wC (D.int 1))))
                    (wCons (wRd 2) (wCons (wRd 0) wNil))))
                δ fun d => P.nx (List.set δ 4 (Sl.st d)))
            (wSeq
              (fun P δ =>
                wOp (wI (fun x j => 0 < j) fun i j => D.int (i % j)) (wOp wIx (wRd 1) (wC (D.int 5)))
                  (wCB wLen (wCons (wRd 4) wNil)) δ fun d => P.nx (List.set δ 5 (Sl.st d)))
              (wSeq
                (fun P δ =>
                  wOp (wI0 fun i j => D.int (i - j)) (wOp wIx (wRd 1) (wC (D.int 6))) (wC (D.int 3)) δ fun d =>
                    P.nx (List.set δ 6 (Sl.st d)))
                (wSeq
                  (fun P δ =>
                    wCB g_items
                      (wCons (wRd 0)
                        (wCons (wCB g_tuples (wCons (wCB wLen (wCons (wRd 4) wNil)) (wCons (wRd 3) wNil)))
                          (wCons (wOp wIx (wRd 1) (wC (D.int 4))) wNil)))
                      δ fun d => P.nx (List.set δ 7 (Sl.st d)))
                  (wSeq
                    (fun P δ =>
                      wMake CT g_Table
                        (wCons
                          (fun δ P =>
                            wLc (wSeqI (wPs 4)) (gNm 9) wYes
                              (fun δ P => wCF wListOf (wCons (wRd 9) wNil) δ fun ds => P (D.lst ds))
                              (List.map (fun x => x.snd) [(Str.ofString "row", 9)]) δ fun ds => P (D.lst ds))
                          (wCons (wRd 2) wNil))
                        δ fun d => P.nx (List.set δ 8 (Sl.st d)))
                    (wSeq (fun P δ => wNil δ fun ds => ∀ (a : Addr), P.nx (List.set δ 10 (Sl.ow a ds)))
                      (wSeq
                        (wFor (wSeqI (wPs 7)) (gNm 11)
                          (wIfS (wTest (wOp (wInT true) (wRd 5) (wOp wIx (wRd 11) (wC (D.int 1)))))
                            (fun P δ =>
                              ∃ a ds,
                                δ[10]? = some (Sl.ow a ds) ∧
                                  wCons (wOp (wI0 fun i j => D.int (i + j)) (wOp wIx (wRd 11) (wC (D.int 0))) (wRd 6))
                                    (wCons
                                      (wCB wTupOf
                                        (wCons
                                          (fun δ P =>
                                            wCF wSorted
                                              (wCons
                                                (fun δ P =>
                                                  wOpF wCatL
                                                    (fun δ P =>
                                                      wCF wListOf (wCons (wOp wIx (wRd 11) (wC (D.int 1))) wNil) δ
                                                        fun ds => P (D.lst ds))
                                                    (fun δ P => wCons (wSt 5) wNil δ fun ds => P (D.lst ds)) δ fun ds =>
                                                    P (D.lst ds))
                                                wNil)
                                              δ fun ds => P (D.lst ds))
                                          wNil))
                                      wNil)
                                    δ fun ds_1 =>
                                    (fun d => ds.length < sizeLine ∧ P.nx (List.set δ 10 (Sl.ow a (ds ++ [d]))))
                                      (D.tup ds_1))
                            wNext))
                        (wSeq
                          (fun P δ =>
                            wMake CS (g_Scheme CT)
                              (wCons (wSt 8) (wCons (wOp (wI0 fun i j => D.int (i + j)) (wRd 3) (wC (D.int 1))) wNil)) δ
                              fun d => P.nx (List.set δ 12 (Sl.st d)))
                          (wSeq (fun P δ => wCB g_by_rank (wCons (wRd 10) wNil) δ fun d => P.nx (List.set δ 13 (Sl.st d)))
                            (wSeq
                              (fun P δ =>
                                wCF wListOf (wCons (wRd 7) wNil) δ fun ds =>
                                  (fun d => P.nx (List.set δ 14 (Sl.st d))) (D.lst ds))
                              (wSeq
                                (fun P δ =>
                                  wCB g_grow (wCons (wRd 14) (wCons (wRd 5) (wCons (wRd 6) wNil))) δ fun d =>
                                    P.nx (List.set δ 15 (Sl.st d)))
                                (wSeq
                                  (fun P δ =>
                                    wCB (g_kept_list CT CS) (wCons (wSt 12) (wCons (wRd 15) wNil)) δ fun d =>
                                      P.nx (List.set δ 16 (Sl.st d)))
                                  (wSeq
                                    (wIfS
                                      (wOr (wTest (wOp (wPy fun a b => !a.eqv b) (wRd 14) (wRd 7)))
                                        (wNot (wTest (wCB (g_same 6) (wCons (wRd 15) (wCons (wRd 13) wNil))))))
                                      (fun P δ => wC (D.bl false) δ P.rt) wNext)
                                    (wSeq
                                      (wIfS
                                        (wNot
                                          (wTest
                                            (wCB g_lfree
                                              (wCons
                                                (fun δ P => wCons (wOp wIx (wRd 4) (wRd 5)) wNil δ fun ds => P (D.lst ds))
                                                (wCons (wRd 2) wNil)))))
                                        (fun P δ =>
                                          wAndV (wCB (g_refd1 CT) (wCons (wSt 8) (wCons (wRd 5) wNil)))
                                            (wCB (g_same 6)
                                              (wCons (wRd 16) (wCons (fun δ P => wNil δ fun ds => P (D.lst ds)) wNil)))
                                            δ P.rt)
                                        wNext)
                                      (wSeq
                                        (fun P δ =>
                                          wCB g_lcon1 (wCons (wRd 4) (wCons (wRd 5) (wCons (wRd 2) wNil))) δ fun d =>
                                            P.nx (List.set δ 17 (Sl.st d)))
                                        (wSeq
                                          (fun P δ =>
                                            wCB (g_contract CT)
                                              (wCons (wSt 8)
                                                (wCons (fun δ P => wCons (wSt 5) wNil δ fun ds => P (D.tup ds)) wNil))
                                              δ fun d => P.nx (List.set δ 18 (Sl.st d)))
                                          (wSeq
                                            (wIfS
                                              (wOr
                                                (wNot
                                                  (wTest
                                                    (wCB (g_same 6)
                                                      (wCons
                                                        (wMeth CT (Str.ofString "rows_of") (g_rows_of CT) (wSt 18)
                                                          (wCons
                                                            (fun δ P =>
                                                              wCB wLen (wCons (wRd 4) wNil) δ fun d =>
                                                                ∃ j, d = D.int j ∧ RgOk 0 j ∧ P (D.tup (rngD 0 j.toNat)))
                                                            wNil))
                                                        (wCons (wRd 17) wNil)))))
                                                (wTest
                                                  (wOp (wI0 fun i j => D.bl !decide (i = j))
                                                    (wFldC CT (Str.ofString "columns") (wSt 18))
                                                    (wOp (wI0 fun i j => D.int (i - j)) (wRd 2) (wC (D.int 1))))))
                                              (fun P δ => wC (D.bl false) δ P.rt) wNext)
                                            (wSeq
                                              (fun P δ =>
                                                wCB (g_kept_list CT CS)
                                                  (wCons (wMake CS (g_Scheme CT) (wCons (wSt 18) (wCons (wRd 3) wNil)))
                                                    (wCons (wRd 14) wNil))
                                                  δ fun d => P.nx (List.set δ 19 (Sl.st d)))
                                              (wSeq
                                                (wIfS
                                                  (wNot
                                                    (wTest
                                                      (wCB (g_same 6)
                                                        (wCons (wRd 19)
                                                          (wCons
                                                            (wCB g_lkept
                                                              (wCons (wRd 17)
                                                                (wCons
                                                                  (wOp (wI0 fun i j => D.int (i - j)) (wRd 2)
                                                                    (wC (D.int 1)))
                                                                  (wCons (wCB g_by_rank (wCons (wRd 7) wNil)) wNil))))
                                                            wNil)))))
                                                  (fun P δ => wC (D.bl false) δ P.rt) wNext)
                                                (wSeq
                                                  (wIfS
                                                    (wOr
                                                      (wNot
                                                        (wTest
                                                          (wCB (g_same 6)
                                                            (wCons (wRd 16)
                                                              (wCons
                                                                (wCB g_lkept
                                                                  (wCons (wRd 4) (wCons (wRd 2) (wCons (wRd 13) wNil))))
                                                                wNil)))))
                                                      (wNot
                                                        (wTest
                                                          (wCB (g_same 6)
                                                            (wCons
                                                              (wCB g_grow
                                                                (wCons (wRd 19) (wCons (wRd 5) (wCons (wRd 6) wNil))))
                                                              (wCons (wRd 16) wNil))))))
                                                    (fun P δ => wC (D.bl false) δ P.rt) wNext)
                                                  (wSeq
                                                    (fun P δ =>
                                                      wOp wIx (wRd 1) (wC (D.int 3)) δ fun d =>
                                                        P.nx (List.set δ 20 (Sl.st d)))
                                                    (wSeq
                                                      (wFor
                                                        (wRng1
                                                          (wCons (wOp (wI0 fun i j => D.int (i - j)) (wRd 2) (wRd 3))
                                                            wNil))
                                                        (gNm 21)
                                                        (wFor
                                                          (wSeqI
                                                            (wCB g_tuples
                                                              (wCons (wCB wLen (wCons (wRd 4) wNil))
                                                                (wCons (wRd 21) wNil))))
                                                          (gNm 22)
                                                          (wSeq
                                                            (fun P δ =>
                                                              wCB g_lfst
                                                                (wCons (wRd 4)
                                                                  (wCons (wRd 2) (wCons (wRd 10) (wCons (wRd 22) wNil))))
                                                                δ fun d => P.nx (List.set δ 23 (Sl.st d)))
                                                            (wSeq
                                                              (fun P δ =>
                                                                wOp (wI0 fun i j => D.int (i + j)) (wRd 20) (wC (D.int 1))
                                                                  δ fun d => P.nx (List.set δ 20 (Sl.st d)))
                                                              (wSeq
                                                                (wIfS
                                                                  (wNot
                                                                    (wTest
                                                                      (wCB (g_same 6)
                                                                        (wCons
                                                                          (wCB (g_ffit CT CS)
                                                                            (wCons (wSt 12)
                                                                              (wCons
                                                                                (fun δ P =>
                                                                                  wRd 16 δ fun d =>
                                                                                    ∃ ds,
                                                                                      d = D.lst ds ∧
                                                                                        (fun ds => P (D.lst ds))
                                                                                          ds.reverse)
                                                                                (wCons (wRd 22) wNil))))
                                                                          (wCons (wRd 23) wNil)))))
                                                                  (fun P δ => wC (D.bl false) δ P.rt) wNext)
                                                                (wIfS
                                                                  (wAnd
                                                                    (wTest
                                                                      (wOp (wI0 fun i j => D.bl (decide (i = j)))
                                                                        (wOp
                                                                          (wI (fun x j => 0 < j) fun i j => D.int (i % j))
                                                                          (wRd 20) (wC (D.int 2)))
                                                                        (wC (D.int 0))))
                                                                    (wNot
                                                                      (wTest
                                                                        (wCB (g_same 6)
                                                                          (wCons
                                                                            (wCB (g_ffit CT CS)
                                                                              (wCons (wSt 12)
                                                                                (wCons
                                                                                  (fun δ P =>
                                                                                    wOpF wCatL (wRd 10) (wRd 10) δ
                                                                                      fun ds => P (D.lst ds))
                                                                                  (wCons (wRd 22) wNil))))
                                                                            (wCons (wRd 23) wNil))))))
                                                                  (fun P δ => wC (D.bl false) δ P.rt) wNext))))))
                                                      fun P δ =>
                                                      wAndV (wOp (wPy PyData.eqv) (wRd 14) (wRd 7))
                                                        (wCB (g_same 6)
                                                          (wCons
                                                            (wMeth CT (Str.ofString "rows_of") (g_rows_of CT) (wSt 8)
                                                              (wCons
                                                                (fun δ P =>
                                                                  wCB wLen (wCons (wRd 4) wNil) δ fun d =>
                                                                    ∃ j,
                                                                      d = D.int j ∧ RgOk 0 j ∧ P (D.tup (rngD 0 j.toNat)))
                                                                wNil))
                                                            (wCons (wRd 4) wNil)))
                                                        δ P.rt))))))))))))))))))))))))
      { nx := fun x => Q D.non, rt := Q }
      (startD
        [Str.ofString "script", Str.ofString "drawn", Str.ofString "columns", Str.ofString "size", Str.ofString "rows",
            Str.ofString "thing", Str.ofString "worth", Str.ofString "items", Str.ofString "table", Str.ofString "row",
            Str.ofString "due", Str.ofString "item", Str.ofString "scheme", Str.ofString "order", Str.ofString "given",
            Str.ofString "told", Str.ofString "kept", Str.ofString "smaller", Str.ofString "inside", Str.ofString "inner",
            Str.ofString "turn", Str.ofString "count", Str.ofString "ask", Str.ofString "first"].length
        [false] [D.scr ns]) := by
  subst_eqs
  refine ⟨ns, 0, rfl, by decide, fun cell => ?_⟩
  refine ⟨cell, [4, 7, 20, 60, 17, 60, 7], rfl, by decide, by decide, fun out ho => ?_⟩
  obtain ⟨o0, o1, o2, o3, o4, o5, o6, rfl, b0, b1, b2, b3, b4, b5, b6⟩ := drawn7 ho
  obtain ⟨c, hc0, hc, hca⟩ := col_at b2.1 b2.2
  obtain ⟨th, hth⟩ : ∃ th : Nat, 1 + o1 = th := ⟨(1 + o1).toNat, by omega⟩
  obtain ⟨sz, hsz, hszc⟩ : ∃ sz : Nat, o3 % (c : Int) = sz ∧ sz < c := by
    have h1 := Int.emod_nonneg o3 (b := (c : Int)) (by omega)
    have h2 := Int.emod_lt_of_pos o3 (b := (c : Int)) (by omega)
    exact ⟨(o3 % (c : Int)).toNat, by omega, by omega⟩
  subst_eqs
  refine ⟨_, rfl, _, rfl, _, rfl, _, hca, _, rfl, _, rfl, _, rfl, _, rfl, by omega, _, rfl, _, rfl, _, rfl, _, rfl, _, rfl, ?_⟩
  refine ⟨o0, th, c, ns, by rw [hth], by omega, hc, fun rows hr1 hr2 hr3 => ?_⟩
  have ht : TabOk rows c := ⟨hc, by omega, hr2, hr3⟩
  have hr8 : rows.length ≤ 8 := by omega
  have hr0 : 0 < rows.length := by omega
  have rlD : lenD (rwsD rows) = some rows.length := by show some (rows.map lI).length = _; rw [List.length_map]
  obtain ⟨t, htt, ht0, htn⟩ : ∃ t : Int, o5 % (rows.length : Int) = t ∧ 0 ≤ t ∧ t < rows.length := ⟨_, rfl, Int.emod_nonneg _ (by omega), Int.emod_lt_of_pos _ (by omega)⟩
  rw [hsz]
  refine ⟨_, rfl, _, rfl, _, rlD, _, rfl, by omega, ?_⟩
  rw [htt]
  have yes : ∀ (R : Prop), R → ∃ k, D.bl true = D.bl k ∧ if (!k) = true then Q (D.bl false) else R := fun R h => ⟨true, rfl, h⟩
  refine ⟨_, rfl, _, rfl, _, rfl, _, rlD, ?_⟩
  refine ⟨rows.length, sz, rfl, hr8, by omega, ?_⟩
  refine ⟨_, rfl, _, rfl, ?_⟩
  refine ⟨ns, rows.length, sz, o4, rfl, by omega, by omega, by omega, by omega, fun items hil hit => ?_⟩
  have hit : ItOk sz rows.length items := fun i hi => mem_chs.mp (hit i hi)
  generalize o6 - 3 = w
  refine ⟨_, rfl, ?_⟩
  refine lcW_map (α := Rw) lI lI rows 0 _ (le_size (by omega)) ?_ ?_
  · intro r hr K1 K2 h
    unfold lI
    subst_eqs
    exact h
  refine ⟨rows, c, rfl, hc, by omega, hr2, ?_⟩
  have hmod : rows.map modR = rows := by
    have : rows.map modR = rows.map id := List.map_congr_left fun r hr => modR_res (hr3 r hr)
    rw [this, List.map_id]
  rw [hmod]
  intro a
  refine ⟨_, rfl, ?_⟩
  have gl : ∀ l : List Item, (grs l t w).length ≤ l.length := fun l => by
    unfold grs
    rw [List.length_map]
    exact List.length_filter_le _ _
  refine forW_inv2 (α := Item) (S := List Item × Sl) itD (fun s => [_, _, _, _, _, _, _, _, _, _, .ow a (s.1.map itD), s.2, _, _, _, _, _, _, _, _, _, _, _, _]) (fun ys xs s => ys ++ xs = items ∧ s.1 = grs ys t w) ?_ ?_ items [] ([], .no) ⟨rfl, rfl⟩
  rotate_left
  · intro ys i xs s J ⟨h1, h2⟩ hJ
    have hi : i ∈ items := by rw [← h1]; exact List.mem_append_right _ List.mem_cons_self
    have hii := hit i hi
    have hg : grs (ys ++ [i]) t w = grs ys t w ++ (if apM i.2 [t] = true then [gro w t i] else []) := by
      unfold grs
      rw [List.filter_append, List.map_append]
      congr 1
      show (List.filter (fun i : Item => apM i.2 [t]) [i]).map (gro w t) = _
      cases c : apM i.2 [t] with
      | true => rw [List.filter_cons_of_pos (p := fun i : Item => apM i.2 [t]) c]; rfl
      | false => rw [List.filter_cons_of_neg (p := fun i : Item => apM i.2 [t]) (by simp [c])]; rfl
    have hlen : ys.length + (xs.length + 1) = items.length := by rw [← h1, List.length_append, List.length_cons]
    have hn := fun f => hJ (f, .st (itD i))
    have e1 : itD i = D.tup [D.int i.1, tI i.2] := rfl
    rw [e1] at hn ⊢
    subst_eqs
    refine ⟨_, itD_1 i, i.2, rfl, ?_⟩
    by_cases cc : t ∈ i.2
    · have hap : ¬ apM i.2 [t] = true := fun z => apM_one.mp z cc
      rw [if_neg hap, List.append_nil] at hg
      rw [if_neg (by simp [cc])]
      exact hn s.1 ⟨by rw [List.append_assoc]; exact h1, by rw [hg]; exact h2⟩
    · have hap : apM i.2 [t] = true := apM_one.mpr cc
      rw [if_pos hap] at hg
      rw [if_pos (by simp [cc])]
      refine ⟨_, rfl, _, rfl, _, itD_1 i, _, rfl, le_size (by rw [List.length_map, hii.1]; omega), i.2 ++ [t], by rw [List.map_append]; rfl, by rw [List.length_append, hii.1, List.length_singleton]; omega, fun ns' hp hs => ⟨lt_size (by rw [List.length_map, h2]; have := gl ys; omega), ?_⟩⟩
      rw [srtM_eq hp hs]
      have z := hn (s.1 ++ [gro w t i]) ⟨by rw [List.append_assoc]; exact h1, by rw [hg, ← h2]⟩
      simp only [List.map_append, List.map_cons, List.map_nil] at z
      exact z
  intro ys s ⟨h1, h2⟩
  rw [List.append_nil] at h1
  subst h1
  subst_eqs
  rw [h2]
  clear h2
  have hti : Ins rows [t] := fun x hx => by rw [List.mem_singleton.mp hx]; exact ⟨ht0, htn⟩
  have hG : ItOk (sz + 1) rows.length (grs ys t w) := fun i hi => by
    obtain ⟨j, hj, rfl⟩ := List.mem_map.mp hi
    obtain ⟨hj1, hj2⟩ := List.mem_filter.mp hj
    have hjj := hit j hj1
    have hnt := apM_one.mp hj2
    rw [gro_lot hjj.2.1 hnt]
    refine ⟨by rw [(insL_perm t j.2).length_eq, List.length_cons, hjj.1], insL_asc hjj.2.1 hnt, fun x hx => ?_⟩
    rcases List.mem_cons.mp ((insL_perm t j.2).subset hx) with rfl | hx
    · exact ⟨ht0, htn⟩
    · exact hjj.2.2 x hx
  have hGl : (grs ys t w).length ≤ 16 := by have := gl ys; omega
  have hrk : (rkM (grs ys t w)).length ≤ 16 := by have := rkM_len (items := grs ys t w); omega
  have legal : ∀ {n : Nat} {l : List Item}, ItOk n rows.length l → ∀ i ∈ l, i.2.length = n ∧ lotF rows.length 0 i.2 = true := fun h i hi => ⟨(h i hi).1, lotF_spec.mpr ⟨(h i hi).2.1, (h i hi).2.2⟩⟩
  have hGr : ItOk (sz + 1) rows.length (rkM (grs ys t w)) := fun i hi => hG i (((rkM_spec _).2 i).mp hi)
  refine ⟨rows, c, sz + 1, by rw [show ((sz : Int) + 1) = ((sz + 1 : Nat) : Int) from by omega], hc, by omega, ?_⟩
  refine ⟨grs ys t w, rfl, by omega, ?_⟩
  refine ⟨ys, t, w, rfl, by omega, fun i hi => by have := (hit i hi).1; omega, ?_⟩
  refine ⟨rows, c, sz + 1, rkM (grs ys t w), rfl, ht, by omega, by omega, legal hGr, ?_⟩
  rw [kep_rk]
  have eqv : ∀ (l : List Item) (R : Prop), R → wPy (fun a b => !a.eqv b) (D.lst (l.map itD)) (D.lst (l.map itD)) fun d => ∃ k, d = D.bl k ∧ if k = true then Q (D.bl false) else R := fun l R h => by
    refine ⟨_, _, toPy_items l, toPy_items l, shaped_items l, shaped_items l, _, rfl, ?_⟩
    have ev : (!PyData.eqv (.list (l.map itP)) (.list (l.map itP))) = false := by
      have : PyData.eqv (.list (l.map itP)) (.list (l.map itP)) = true := by
        rw [PyData.eqv]
        exact eqvAll_items l
      rw [this]
      rfl
    show ite ((!PyData.eqv (.list (l.map itP)) (.list (l.map itP))) = true) _ _
    rw [ev, if_neg (by decide)]
    exact h
  have same : ∀ (d : D) (R : Prop), plN 6 d → R → g_same 6 [d, d] fun d => ∃ k, d = D.bl k ∧ if (!k) = true then Q (D.bl false) else R := fun d R hp h => ⟨d, d, rfl, hp, hp, fun b hb => by
    obtain rfl : b = true := hb.mpr rfl
    exact yes _ h⟩
  have pl : ∀ l : List Item, l.length ≤ 100 → (∀ i ∈ l, i.2.length ≤ 100) → plN 6 (.lst (l.map itD)) := fun l h1 h2 => plN.mono (pl_items (by omega) fun i hi => by have := h2 i hi; omega)
  refine eqv ys _ ?_
  refine same _ _ (pl _ (by omega) fun i hi => by have := (hGr i hi).1; omega) ?_
  have hrow := get_row (rows := rows) (x := t) ht0 htn
  refine ⟨_, rfl, _, hrow, ?_⟩
  have e1 : elF c [rows.getD t.toNat []] = elF c (lotR rows [t]) := rfl
  refine ⟨c, [rows.getD t.toNat []], rfl, by omega, by simp, lotR_len ht hti, lotR_res (lot := [t]) ht, _, rfl, ?_⟩
  have hel : (elF c [rows.getD t.toNat []]).isEmpty = true ↔ RfGo [] (lotR rows [t]) := by
    rw [e1, elF_ind (lotR_len ht hti) (lotR_res ht), rfgo_ind (lotR_len ht hti)]
  by_cases hg : RfGo [] (lotR rows [t])
  case neg =>
    have hef : (elF c [rows.getD t.toNat []]).isEmpty = false := Bool.eq_false_iff.mpr fun z => hg (hel.mp z)
    rw [hef, if_pos (by decide)]
    have hf : freeM rows [t] = false := Bool.eq_false_iff.mpr fun h => hg ((free_rf ht hti).mp h)
    refine ⟨rows, c, t, rfl, ht, .inr hf, true, rfl, ?_⟩
    rw [if_pos rfl]
    have hk : kepM rows c (grs ys t w) = [] := by
      rw [kep_keep fun i hi => (hG i hi).1]
      refine keepG_zero _ _ fun x hx j => ?_
      have hx := ((rkM_spec _).2 x).mp hx
      obtain ⟨y, hy, rfl⟩ := List.mem_map.mp hx
      refine not_free_zero ht hti hg ?_ j
      show t ∈ srtM (y.2 ++ [t])
      exact (srtM_perm _).symm.subset (List.mem_append_right _ List.mem_cons_self)
    rw [hk]
    refine ⟨_, _, rfl, pl [] (by decide) (fun i h => nomatch h), pl [] (by decide) (fun i h => nomatch h), fun b hb => ?_⟩
    rw [hb.mpr rfl]
    exact q
  rw [hel.mpr hg, if_neg (by decide)]
  have t1 := con_tab ht hti hg
  have n1 : conC rows c [t] = c - 1 := by
    have := conC_eq ht hti hg
    simp at this
    omega
  have rl1 : (conM rows c [t]).length = rows.length := con_len _ _ _
  refine ⟨rows, c, t, rfl, ht, hc0, hti, hg, ?_⟩
  refine ⟨rows, c, [t], rfl, ht, lotF_spec.mpr ⟨List.pairwise_singleton _ _, hti⟩, (free_rf ht hti).mpr hg, hg, ?_⟩
  refine ⟨_, rfl, rfl, _, rlD, by unfold RgOk; omega, ?_⟩
  have er : rngD 0 ((rows.length : Nat) : Int).toNat = (rgI 0 rows.length).map .int := rngD_rgI0 _
  rw [er]
  refine ⟨conM rows c [t], conC rows c [t], rgI 0 rows.length, rfl, fun x hx => by have := mem_rgI.mp hx; omega, by rw [rgI_len]; omega, ?_⟩
  rw [rows_all _ _ rl1.symm]
  refine same _ _ (pl_rows _ (by omega) fun r hr => by rw [t1.l r hr]; have := t1.c; omega) ?_
  have cS : (conC rows c [t] : Int) = c - 1 := by omega
  refine ⟨_, rfl, _, rfl, _, rfl, ?_⟩
  rw [if_neg (by rw [cS]; simp)]
  have hit1 : ItOk sz (conM rows c [t]).length ys := by rw [rl1]; exact hit
  have legal1 : ∀ i ∈ ys, i.2.length = sz ∧ lotF (conM rows c [t]).length 0 i.2 = true := fun i hi => ⟨(hit1 i hi).1, lotF_spec.mpr ⟨(hit1 i hi).2.1, (hit1 i hi).2.2⟩⟩
  refine ⟨conM rows c [t], conC rows c [t], sz, rfl, by omega, by omega, ?_⟩
  refine ⟨conM rows c [t], conC rows c [t], sz, ys, rfl, t1, by omega, by omega, legal1, ?_⟩
  refine ⟨ys, rfl, by omega, ?_⟩
  have hry : (rkM ys).length ≤ 16 := by have := rkM_len (items := ys); omega
  refine ⟨conM rows c [t], conC rows c [t], sz, rkM ys, by rw [cS], t1, by omega, by omega, fun i hi => ?_, ?_⟩
  · have := hit1 i (((rkM_spec ys).2 i).mp hi)
    exact ⟨this.1, this.2.2⟩
  rw [kept_same fun i hi => (hit1 i hi).1]
  have hin : (kepM (conM rows c [t]) (conC rows c [t]) ys).length ≤ 16 := by have := kepM_len (conM rows c [t]) (conC rows c [t]) ys; omega
  have hke : (kepM rows c (grs ys t w)).length ≤ 16 := by have := kepM_len rows c (grs ys t w); omega
  obtain ⟨g1, g2⟩ := grow_keep (worth := w) ht hti hg hit
  have hkG : ItOk (sz + 1) rows.length (kepM rows c (grs ys t w)) := fun i hi => hG i (kepM_sub i hi)
  refine same _ _ (pl _ (by omega) fun i hi => by have := (hit1 i (g2 i hi).1).1; omega) ?_
  refine ⟨rows, c, sz + 1, rkM (grs ys t w), rfl, ht, by omega, by omega, fun i hi => ⟨(hGr i hi).1, (hGr i hi).2.2⟩, ?_⟩
  rw [kept_same fun i hi => (hG i hi).1]
  refine same _ _ (pl _ (by omega) fun i hi => by have := (hkG i hi).1; omega) ?_
  refine ⟨kepM (conM rows c [t]) (conC rows c [t]) ys, t, w, rfl, by omega, fun i hi => by have := (hit1 i (g2 i hi).1).1; omega, ?_⟩
  have hgi : rkM (grs (kepM (conM rows c [t]) (conC rows c [t]) ys) t w) = kepM rows c (grs ys t w) := by
    have e : grs (kepM (conM rows c [t]) (conC rows c [t]) ys) t w = kepM rows c (grs ys t w) := by
      rw [g1]
      unfold grs
      rw [List.filter_eq_self.mpr fun i hi => apM_one.mpr (g2 i hi).2]
    rw [e]
    exact sorted_rk (keep_sorted fun i hi => (hG i hi).1)
  rw [hgi]
  refine same _ _ (pl _ (by omega) fun i hi => by have := (hkG i hi).1; omega) ?_
  refine ⟨_, rfl, _, rfl, ⟨by omega, by omega⟩, ?_⟩
  rw [rngD_rgI0]
  have hcs : (rgI 0 ((c : Int) - sz)) = rgI 0 ((c - sz : Nat) : Int) := by rw [show ((c : Int) - sz) = ((c - sz : Nat) : Int) from by omega]
  refine forW_inv (α := Int) (S := Int × Sl × Sl × Sl) D.int (fun s => [_, _, _, _, _, _, _, _, _, _, _, _, _, _, _, _, _, _, _, _, .st (.int s.1), s.2.1, s.2.2.1, s.2.2.2]) (fun xs _ => ∀ x ∈ xs, 0 ≤ x ∧ x < (c : Int) - sz) ?_ ?_ (rgI 0 ((c : Int) - sz)) (o3, .no, .no, .no) (fun x h => mem_rgI.mp h)
  rotate_left
  · intro k xs s K1 h hK
    have hk := h k List.mem_cons_self
    obtain ⟨kn, hkn⟩ : ∃ n : Nat, k = n := ⟨k.toNat, by omega⟩
    subst hkn
    subst_eqs
    refine ⟨_, rlD, ?_⟩
    refine ⟨rows.length, kn, rfl, hr8, by omega, ?_⟩
    refine ⟨_, rfl, ?_⟩
    refine forW_inv (α := List Int) (S := Int × Sl × Sl) tI (fun s => [_, _, _, _, _, _, _, _, _, _, _, _, _, _, _, _, _, _, _, _, .st (.int s.1), _, s.2.1, s.2.2]) (fun xs _ => ∀ x ∈ xs, x ∈ chs rows.length kn) ?_ ?_ (chs rows.length kn) (s.1, s.2.2) (fun x h => h)
    · intro s2 _
      exact hK (s2.1, _, s2.2) fun y hy => h y (List.mem_cons_of_mem _ hy)
    · intro ask as s2 K2 h2 hK2
      have hask := mem_chs.mp (h2 ask List.mem_cons_self)
      have hia : Ins rows ask := hask.2.2
      subst_eqs
      have hff : Fst (grs ys t w) (fun i => freeM rows (i.2 ++ ask)) ((grs ys t w).foldl (lfS rows c ask) none) := by
        have := fold_fst (rows := rows) (columns := c) (ask := ask) (f := fun i => freeM rows (i.2 ++ ask)) (grs ys t w) [] none (fun i hi => free_el ht (hG i hi).2.2 hia) (fun x h => nomatch h)
        exact this
      have hk1 := kept_fst ht (fun i hi => ⟨(hG i hi).1, (hG i hi).2.2⟩) hia hff
      have hk2 : ffM rows (kepM rows c (grs ys t w)).reverse ask = (grs ys t w).foldl (lfS rows c ask) none := fst_uniq (ff_fst rows _ ask) (fst_mem (fun x => by rw [List.mem_reverse]) hk1)
      have hk3 : ffM rows (grs ys t w ++ grs ys t w) ask = (grs ys t w).foldl (lfS rows c ask) none := fst_uniq (ff_fst rows _ ask) (fst_mem (fun x => by rw [List.mem_append, or_self]) hff)
      have hpl : plN 6 (optD ((grs ys t w).foldl (lfS rows c ask) none)) := by
        cases e : (grs ys t w).foldl (lfS rows c ask) none with
        | none => exact plN.non
        | some i =>
          rw [e] at hff
          exact pl_it i (by have := (hG i hff.1).1; omega)
      have hls : lotF rows.length 0 ask = true := lotF_spec.mpr ⟨hask.2.1, hask.2.2⟩
      refine ⟨rows, c, grs ys t w, ask, rfl, ht, fun i hi => ⟨by have := (hG i hi).1; omega, (hG i hi).2.2⟩, by omega, hia, ?_⟩
      refine ⟨rows, c, sz + 1, (kepM rows c (grs ys t w)).reverse, ask, by rw [List.map_reverse], ht, by rw [List.length_reverse]; omega, fun i hi => legal hkG i (List.mem_reverse.mp hi), by omega, hls, ?_⟩
      rw [hk2]
      refine same _ _ hpl ⟨by decide, ?_⟩
      by_cases cz : (s2.1 + 1) % 2 = 0
      · rw [if_pos cz]
        refine ⟨le_size (by rw [List.length_map]; omega), ?_⟩
        refine ⟨rows, c, sz + 1, grs ys t w ++ grs ys t w, ask, by rw [List.map_append], ht, by rw [List.length_append]; omega, fun i hi => legal hG i ((List.mem_append.mp hi).elim id id), by omega, hls, ?_⟩
        rw [hk3]
        refine same _ _ hpl ?_
        exact hK2 (s2.1 + 1, _, _) fun y hy => h2 y (List.mem_cons_of_mem _ hy)
      · rw [if_neg cz]
        exact hK2 (s2.1 + 1, _, _) fun y hy => h2 y (List.mem_cons_of_mem _ hy)
  intro s _
  subst_eqs
  refine ⟨_, _, toPy_items ys, toPy_items ys, shaped_items ys, shaped_items ys, true, ?_, ?_⟩
  · have : PyData.eqv (.list (ys.map itP)) (.list (ys.map itP)) = true := by
      rw [PyData.eqv]
      exact eqvAll_items ys
    rw [this]
  rw [if_pos rfl]
  refine ⟨rfl, _, rlD, by unfold RgOk; omega, ?_⟩
  rw [er]
  refine ⟨rows, c, rgI 0 rows.length, rfl, fun x hx => by have := mem_rgI.mp hx; omega, by rw [rgI_len]; omega, ?_⟩
  rw [rows_all _ _ rfl]
  have hpr := pl_rows rows (by omega) fun r hr => by rw [ht.l r hr]; omega
  refine ⟨_, _, rfl, hpr, hpr, fun b hb => ?_⟩
  rw [hb.mpr rfl]
  exact q
end K87
end
section
set_option Elab.async false
set_option linter.all false
set_option maxRecDepth 100000
set_option maxHeartbeats 8000000
/-! K35: the law of k75. -/
namespace K87
open PySem PySem.Spec PyProof.Rows L2 DL SN
variable {P : Program} {w : World} {K : PySem.W.Frag} {mg : Str → Option Value} {base : Heap} {CT CS CB : Addr}
local macro_rules | `(tactic| subst_eqs) => `(tactic| try simp only [wSeq, wNext, wFor, wRng1, wRng2, wRd, wSt, wC, gNm, gTp, gsNil, gsCons, wLc, wLc2, wSeqI, wPs, wYes, wIf, wIfS, wTru, wTest, wAnd, wOr, wNot, wAndV, wOrV, wNotV, wOp, wI0, wI, wIx, wUn, wNeg, wCatT, wCB, wCF, wOpF, wCatL, wRepL, wLen, wIntOf, wMM, wListOf, wTupOf, wSorted, wK, wCons, wNil, wPar, wNoPart, wPart, wEn, wEnN, wEnT, wZp, wInI, wInT, wIsN, wNotN, wDGet, wMeth, wMake, wFldC, wCon, wIsi,
  rdSl_st, rdSl_wk, rdSl_ow, rdSl_oT, stSl_st, stSl_wk, truD_bl, truD_int, truD_lst, truD_tup, truD_non, lenD_lst, lenD_tup, lenD_scr, walkD_lst, walkD_tup, seqD_lst, seqD_tup, seqD_scr, solid_int, solid_bl, solid_tup, solid_ins, solid_non, solid_str, isNon_non, isNon_lst, isNon_tup, isNon_int, isNon_bl, frz_ow0, frz_succ, frzS_st, frzS_wk, frzS_ow, frzS_oT, frzS_no,
  startD, startS, wipeD, List.set_cons_zero, List.set_cons_succ, List.getElem?_cons_zero, List.getElem?_cons_succ, List.length_cons, List.length_nil, List.cons_append, List.nil_append, List.map_cons, List.map_nil, List.replicate, Nat.reduceSub, Nat.reduceAdd, Option.some.injEq, Sl.st.injEq, Sl.wk.injEq, Sl.ow.injEq, Sl.oT.injEq, Sl.oI.injEq, D.int.injEq, D.lst.injEq, D.tup.injEq, D.bl.injEq, D.dT.injEq, D.ins.injEq, List.cons.injEq, exists_eq_left, exists_eq_left', exists_eq_right, exists_eq_right', exists_and_left, exists_and_right, and_assoc, decide_eq_true_eq, and_true, true_and, and_self, reduceIte, ite_true, ite_false, Bool.false_eq_true, reduceCtorEq, exists_false, false_and, and_false, exists_const, forall_const])

def g_law : GD := fun ds Q => ∃ ns : List Int, ds = [.scr ns] ∧ ns.length ≤ 63 ∧ Q (.bl true)
theorem sc_law : FnScope ["script", "drawn", "columns", "size", "rows", "thing", "worth", "items", "table", "row", "due", "item", "scheme", "order", "given", "told", "kept", "smaller", "inside", "inner", "turn", "count", "ask", "first"] ["script"] (defScope (top 53)) := ⟨rfl, rfl, rfl, by decide +kernel, rfl, by decide +kernel, by decide +kernel⟩
theorem law_ok (T : Txt K mg CT CS CB) (XT : BadT P K mg CB) {fL : Addr} {fdL : FuncData} (FL : FunD K "law" "law" (defArgs (top 53)) (defBody (top 53)) (defScope (top 53)) [] [] fL fdL) : FnOk P w K mg base CX0 13 fL fdL ["script"] (spD K [false] g_law) := by
  have S := sc_law
  refine okD FL S rfl fun cdv A outer s H E hr => ⟨_, _, (dss_cons (ds_set (i := 1) S.nd (Use.deK (K := K) (u__law_draws T) hr (da_wk (DE.w (Use.deK (K := K) (u__law_cell T) hr (da_wk (dr 0) (da_wk (DE.w de_int) da_nil)))) (da_wk (DF.w (df_lst (da_st de_int (da_st de_int (da_st de_int (da_st de_int (da_st de_int (da_st de_int (da_st de_int da_nil))))))))) da_nil))))
      (dss_cons (ds_set (i := 2) S.nd (de_ixK (K := K) (DF.w (df_lst (da_st de_int (da_st de_int (da_st de_int (da_st de_int (da_st de_int (da_st de_int (da_st de_int (da_st de_int (da_st de_int (da_st de_int (da_st de_int (da_st de_int (da_st de_int (da_st de_int (da_st de_int (da_st de_int (da_st de_int (da_st de_int (da_st de_int (da_st de_int da_nil)))))))))))))))))))))) (DE.w (de_ixK (K := K) (dr 1) (DE.w de_int)))))
      (dss_cons (ds_set (i := 3) S.nd (de_op op_mod lo_I (DE.w (de_ixK (K := K) (dr 1) (DE.w de_int))) (dr 2)))
      (dss_cons (ds_set (i := 4) S.nd (Use.deK (K := K) (u__law_rows T) hr (da_wk (DE.w (de_ixK (K := K) (dr 1) (DE.w de_int))) (da_wk (DE.w (de_op op_add lo_I0 (DE.w de_int) (DE.w (de_ixK (K := K) (dr 1) (DE.w de_int))))) (da_wk (dr 2) (da_wk (dr 0) da_nil))))))
      (dss_cons (ds_set (i := 5) S.nd (de_op op_mod lo_I (DE.w (de_ixK (K := K) (dr 1) (DE.w de_int))) (DE.w (de_callB (call_lenK (K := K)) lc_len rfl T.b_len (da_wk (dr 4) da_nil)))))
      (dss_cons (ds_set (i := 6) S.nd (de_op op_sub lo_I0 (DE.w (de_ixK (K := K) (dr 1) (DE.w de_int))) (DE.w de_int)))
      (dss_cons (ds_set (i := 7) S.nd (Use.deK (K := K) (u__law_items T) hr (da_wk (dr 0) (da_wk (DE.w (Use.deK (K := K) (u__law_tuples T) hr (da_wk (DE.w (de_callB (call_lenK (K := K)) lc_len rfl T.b_len (da_wk (dr 4) da_nil))) (da_wk (dr 3) da_nil)))) (da_wk (DE.w (de_ixK (K := K) (dr 1) (DE.w de_int))) da_nil)))))
      (dss_cons (ds_set (i := 8) S.nd (UseI.deK (K := K) (u_Table T) hr (da_wk (DF.w (df_lc (own := [("row", 9)]) rfl S.nd (DIp.w (dip_nmK (K := K) 4)) (by kernel_rfl) (fun _ _ _ _ _ => (dg_name (i := 9) S.nd)) (fun _ _ _ _ _ => dts_nil) (fun _ _ _ _ _ => (DF.e (df_callT (call_list_ofK (K := K)) lc_list rfl T.b_list (da_wk (dr 9) da_nil)))))) (da_wk (dr 2) da_nil))))
      (dss_cons (ds_own (i := 10) S.nd (df_lst da_nil))
      (dss_cons (ds_for PassesOwn.never rfl (dip_nmK (K := K) 7) (dg_name (i := 11) S.nd) (dss_one (ds_if (dt_cmp (op_notInK (K := K)) lo_inT (dr 5) (DE.w (de_ixK (K := K) (dr 11) (DE.w de_int))) rfl) (dss_one (ds_app (i := 10) (de_tup (da_st (de_op op_add lo_I0 (DE.w (de_ixK (K := K) (dr 11) (DE.w de_int))) (dr 6)) (da_st (de_callT (call_tuple_ofK (K := K)) lc_tuple rfl T.b_tuple (da_wk (DF.w (df_callB (cr_sortedK (K := K)) lc_sorted rfl T.b_sorted (da_wk (DF.w (df_op op_cat lo_catL (DF.w (df_callT (call_list_ofK (K := K)) lc_list rfl T.b_list (da_wk (DE.w (de_ixK (K := K) (dr 11) (DE.w de_int))) da_nil))) (DF.w (df_lst (da_st (dv 5) da_nil))))) da_nil))) da_nil)) da_nil))))) dss_nil)))
      (dss_cons (ds_set (i := 12) S.nd (UseI.deK (K := K) (u_Scheme T) hr (da_st (dv 8) (da_wk (DE.w (de_op op_add lo_I0 (dr 3) (DE.w de_int))) da_nil))))
      (dss_cons (ds_set (i := 13) S.nd (Use.deK (K := K) (u__law_by_rank T) hr (da_wk (dr 10) da_nil)))
      (dss_cons (ds_set (i := 14) S.nd (DF.e (df_callT (call_list_ofK (K := K)) lc_list rfl T.b_list (da_wk (dr 7) da_nil))))
      (dss_cons (ds_set (i := 15) S.nd (Use.deK (K := K) (u_grow T) hr (da_wk (dr 14) (da_wk (dr 5) (da_wk (dr 6) da_nil)))))
      (dss_cons (ds_set (i := 16) S.nd (Use.deK (K := K) (u_kept_list T) hr (da_st (dv 12) (da_wk (dr 15) da_nil))))
      (dss_cons (ds_if (DTW.t (dw_or (dt_cmp (op_neDK (K := K) hr.units) lo_neD (dr 14) (dr 7) (nomark _)) (dw_or1 (dt_not (dt_val (Use.deK (K := K) (u__law_same T 6) hr (da_wk (dr 15) (da_wk (dr 13) da_nil)))))))) (dss_one (ds_ret de_bl)) dss_nil)
      (dss_cons (ds_if (dt_not (dt_val (Use.deK (K := K) (u__law_free T) hr (da_wk (DF.w (df_lst (da_st (de_ixK (K := K) (dr 4) (dr 5)) da_nil))) (da_wk (dr 2) da_nil))))) (dss_one (ds_ret (de_and (Use.deK (K := K) (u__law_refused T XT) hr (da_st (dv 8) (da_wk (dr 5) da_nil))) (de_one (Use.deK (K := K) (u__law_same T 6) hr (da_wk (dr 16) (da_wk (DF.w (df_lst da_nil)) da_nil))))))) dss_nil)
      (dss_cons (ds_set (i := 17) S.nd (Use.deK (K := K) (u__law_contracted T) hr (da_wk (dr 4) (da_wk (dr 5) (da_wk (dr 2) da_nil)))))
      (dss_cons (ds_set (i := 18) S.nd (Use.deK (K := K) (u_contract T) hr (da_st (dv 8) (da_wk (DE.w (de_tup (da_st (dv 5) da_nil))) da_nil))))
      (dss_cons (ds_if (DTW.t (dw_or (dt_not (dt_val (Use.deK (K := K) (u__law_same T 6) hr (da_wk (DE.w (UseM.deK (K := K) (u_Table_rows_of T) hr (dv 18) (da_wk (DE.w (de_tupR1 rfl T.b_tuple rfl T.b_range rfl (DE.w (de_callB (call_lenK (K := K)) lc_len rfl T.b_len (da_wk (dr 4) da_nil))))) da_nil))) (da_wk (dr 17) da_nil))))) (dw_or1 (dt_cmp op_ne lo_neI (DE.w (de_fldK (K := K) T.c_Table.cls T.c_Table.n_columns (dv 18))) (DE.w (de_op op_sub lo_I0 (dr 2) (DE.w de_int))) (nomark _))))) (dss_one (ds_ret de_bl)) dss_nil)
      (dss_cons (ds_set (i := 19) S.nd (Use.deK (K := K) (u_kept_list T) hr (da_st (UseI.deK (K := K) (u_Scheme T) hr (da_st (dv 18) (da_wk (dr 3) da_nil))) (da_wk (dr 14) da_nil))))
      (dss_cons (ds_if (dt_not (dt_val (Use.deK (K := K) (u__law_same T 6) hr (da_wk (dr 19) (da_wk (DE.w (Use.deK (K := K) (u__law_kept T) hr (da_wk (dr 17) (da_wk (DE.w (de_op op_sub lo_I0 (dr 2) (DE.w de_int))) (da_wk (DE.w (Use.deK (K := K) (u__law_by_rank T) hr (da_wk (dr 7) da_nil))) da_nil))))) da_nil))))) (dss_one (ds_ret de_bl)) dss_nil)
      (dss_cons (ds_if (DTW.t (dw_or (dt_not (dt_val (Use.deK (K := K) (u__law_same T 6) hr (da_wk (dr 16) (da_wk (DE.w (Use.deK (K := K) (u__law_kept T) hr (da_wk (dr 4) (da_wk (dr 2) (da_wk (dr 13) da_nil))))) da_nil))))) (dw_or1 (dt_not (dt_val (Use.deK (K := K) (u__law_same T 6) hr (da_wk (DE.w (Use.deK (K := K) (u_grow T) hr (da_wk (dr 19) (da_wk (dr 5) (da_wk (dr 6) da_nil))))) (da_wk (dr 16) da_nil)))))))) (dss_one (ds_ret de_bl)) dss_nil)
      (dss_cons (ds_set (i := 20) S.nd (de_ixK (K := K) (dr 1) (DE.w de_int)))
      (dss_cons (ds_for PassesOwn.never rfl (di_rng1 rfl T.b_range (da_wk (DE.w (de_op op_sub lo_I0 (dr 2) (dr 3))) da_nil)) (dg_name (i := 21) S.nd) (dss_one (ds_for PassesOwn.never rfl (dip_seqK (K := K) (Use.deK (K := K) (u__law_tuples T) hr (da_wk (DE.w (de_callB (call_lenK (K := K)) lc_len rfl T.b_len (da_wk (dr 4) da_nil))) (da_wk (dr 21) da_nil)))) (dg_name (i := 22) S.nd) (dss_cons (ds_set (i := 23) S.nd (Use.deK (K := K) (u__law_first T) hr (da_wk (dr 4) (da_wk (dr 2) (da_wk (dr 10) (da_wk (dr 22) da_nil))))))
      (dss_cons (ds_set (i := 20) S.nd (de_op op_add lo_I0 (dr 20) (DE.w de_int)))
      (dss_cons (ds_if (dt_not (dt_val (Use.deK (K := K) (u__law_same T 6) hr (da_wk (DE.w (Use.deK (K := K) (u_first_fit T) hr (da_st (dv 12) (da_wk (DF.w (df_revLK (K := K) (dr 16))) (da_wk (dr 22) da_nil))))) (da_wk (dr 23) da_nil))))) (dss_one (ds_ret de_bl)) dss_nil)
      (dss_one (ds_if (DTW.t (dw_and (dt_cmp op_eq lo_eqI (DE.w (de_op op_mod lo_I (dr 20) (DE.w de_int))) (DE.w de_int) (nomark _)) (dw_and1 (dt_not (dt_val (Use.deK (K := K) (u__law_same T 6) hr (da_wk (DE.w (Use.deK (K := K) (u_first_fit T) hr (da_st (dv 12) (da_wk (DF.w (df_op op_cat lo_catL (dr 10) (dr 10))) (da_wk (dr 22) da_nil))))) (da_wk (dr 23) da_nil)))))))) (dss_one (ds_ret de_bl)) dss_nil))))))))
      (dss_one (ds_ret (de_and (de_cmp (op_eqDK (K := K) hr.units) lo_eqD (dr 14) (dr 7) (nomark _)) (de_one (Use.deK (K := K) (u__law_same T 6) hr (da_wk (DE.w (UseM.deK (K := K) (u_Table_rows_of T) hr (dv 8) (da_wk (DE.w (de_tupR1 rfl T.b_tuple rfl T.b_range rfl (DE.w (de_callB (call_lenK (K := K)) lc_len rfl T.b_len (da_wk (dr 4) da_nil))))) da_nil))) (da_wk (dr 4) da_nil)))))))))))))))))))))))))))))))), fun ds Q hl hg => ?_⟩
  obtain ⟨ns, rfl, hns, q⟩ := hg
  exact pure_law hns q
end K87
end
section
set_option Elab.async false
set_option linter.all false
set_option maxRecDepth 100000
set_option maxHeartbeats 2000000
/-! HX: the head's facts of an own exception (EX1.ExT) and of a class's constants, by a Hook. -/
namespace HX
open PySem PySem.Spec PyProof.Rows L2 He
abbrev FnQ : Type := Option (Str × Str × Arguments × FuncBody × Scope × Addr × List Str × Value × Value × Addr)
def fnQ (K : PySem.W.Frag) (a : Addr) : FnQ := match K.lookup a with
  | some ⟨_, _, .func fd, _⟩ => some (fd.name, fd.qualname, fd.params, fd.body, fd.scope, fd.globals, fd.closure.map (·.1), fd.defaults, fd.kwdefaults, fd.builtins)
  | _ => none
structure ExD where
  x : Str
  f : Str
  qual : Str
  params : Arguments
  body : List Stmt
  scope : Scope
def ExD.val (d : ExD) : FnQ := some ("__init__", d.qual, d.params, .stmts d.body, d.scope, mainGlobals, ["__class__"], .none, .none, builtinsNs)
def exI (K : PySem.W.Frag) (x : Str) : Addr := ma K (ga K x) "__init__"
def celI (K : PySem.W.Frag) (x : Str) : Addr := match K.lookup (exI K x) with
  | some ⟨_, _, .func fd, _⟩ => (match fd.closure with
    | [(_, c)] => c
    | _ => 0)
  | _ => 0
def codI (K : PySem.W.Frag) (x : Str) : Addr := match K.lookup (exI K x) with
  | some ⟨_, _, .func fd, _⟩ => (match fd.code with
    | .ref c => c
    | _ => 0)
  | _ => 0
def codR (K : PySem.W.Frag) (x : Str) : Bool := match K.lookup (exI K x) with
  | some ⟨_, _, .func fd, _⟩ => (match fd.code with
    | .ref _ => true
    | _ => false)
  | _ => false
def exCls (K : PySem.W.Frag) (C : Addr) : Bool := match K.lookup C with
  | some ⟨.type "type", _, .cls cd, sl⟩ => (match cd.mro, sl.toList with
    | .ref C' :: bm, [_, _, _, _, some (.builtin n), _] => C' == C && n == "ValueError.__new__" && !cd.hasDel && cd.hasDict && PySem.HandSPX.refsVE bm
    | _, _ => false)
  | _ => false
theorem exCls_of {K : PySem.W.Frag} {C : Addr} (q : exCls K C = true) : ∃ nm qn N bs bm sn sub ab col dd k0 k1 k2 k3 k5, K.lookup C = some (excClassObj nm qn C N bs bm true sn sub ab col dd k0 k1 k2 k3 k5 "ValueError.__new__") ∧ PySem.HandSPX.refsVE bm = true := by
  unfold exCls at q
  split at q
  · rename_i dd cd sl ho
    split at q
    · rename_i C' bm k0 k1 k2 k3 n k5 hm hs
      simp only [Bool.and_eq_true, beq_iff_eq, Bool.not_eq_true'] at q
      obtain ⟨⟨⟨⟨rfl, rfl⟩, hdel⟩, hdi⟩, ht⟩ := q
      obtain ⟨nm, bs, mro, ns, qn, hd, sn, sub, ab, col, del⟩ := cd
      dsimp only at hm hdel hdi
      subst hm hdel hdi
      have hsl : sl = #[k0, k1, k2, k3, some (.builtin "ValueError.__new__"), k5] := by
        obtain ⟨l⟩ := sl
        simp only at hs
        rw [hs]
      subst hsl
      exact ⟨nm, qn, ns, bs, bm, sn, sub, ab, col, dd, k0, k1, k2, k3, k5, ho, ht⟩
    · cases q
  · cases q
def celB (K : PySem.W.Frag) (a C : Addr) : Bool := match K.lookup a with
  | some ⟨_, _, .cell (some (.ref D)), _⟩ => decide (D = C)
  | _ => false
theorem celB_of {K : PySem.W.Frag} {a C : Addr} (q : celB K a C = true) : ∃ cl cld csl, K.lookup a = some ⟨cl, cld, .cell (some (.ref C)), csl⟩ := by
  unfold celB at q
  split at q
  · rename_i e
    have := of_decide_eq_true q
    subst this
    exact ⟨_, _, _, e⟩
  · cases q
def codB (K : PySem.W.Frag) (a : Addr) (file : Str) : Bool := match K.lookup a with
  | some ⟨_, _, .fields vs, _⟩ => (match (vs[2]? : Option Value) with
    | some (.str y _) => decide (y = file)
    | _ => false)
  | _ => false
theorem codB_of {K : PySem.W.Frag} {a : Addr} {file : Str} (q : codB K a file = true) : ∃ ccl cdd vs ccs tf, K.lookup a = some ⟨ccl, cdd, .fields vs, ccs⟩ ∧ vs[2]? = some (.str file tf) := by
  unfold codB at q
  split at q
  · rename_i e
    split at q
    · rename_i e2
      have := of_decide_eq_true q
      subst this
      exact ⟨_, _, _, _, _, e, e2⟩
    · cases q
  · cases q
def exOk (file : Str) (K : PySem.W.Frag) (d : ExD) : Bool :=
  exCls K (ga K d.x) && (eqO (PySem.W.findIn K (.ref (ga K d.x)) "__setattr__") (some (some (.builtin "object.__setattr__"))) && (eqO (PySem.W.findIn K (.ref (ga K d.x)) "__getattribute__") (some (some (.builtin "BaseException.__getattribute__"))) &&
  (eqO (PySem.W.findIn K (.ref (ga K d.x)) "__getattr__") (some none) && (eqO (PySem.W.findIn K (.ref (ga K d.x)) d.f) (some none) && (eqO (PySem.W.findIn K (.ref (ga K d.x)) "__init__") (some (some (.ref (exI K d.x)))) &&
  (decide (PySem.W.typeIn K (.ref (exI K d.x)) = some (.type "function")) && (PySem.W.keepIn K (.ref (ga K d.x)) && (decide (PySem.W.subIn K (.ref (ga K d.x)) (.type "BaseException") = some true) && (decide (PySem.W.subIn K (.ref (ga K d.x)) (.type "ValueError") = some true) &&
  (decide (PySem.W.typeIn K (.ref (ga K d.x)) = some (.type "type")) && (PySem.W.hasDictIn K (ga K d.x) && (decide (PySem.W.exmOne K (.ref (ga K d.x)) (.ref (ga K d.x)) = some true) && (eqO (PySem.W.nsIn K cStatics "thirdparty.any") (some none) &&
  (eqO (PySem.W.ks_superIn K (ga K d.x) (ga K d.x) "__init__") (some (some (.builtin "ValueError.__init__"))) && (decide (PySem.W.mroIn K (ga K d.x) (.ref (ga K d.x)) = some true) && (celB K (celI K d.x) (ga K d.x) && (codB K (codI K d.x) file && (codR K d.x && PySem.W.codeIn K (.ref (codI K d.x)) d.qual))))))))))))))))))
theorem exT_of {P : Program} {K : PySem.W.Frag} {mg : Str → Option Value} {d : ExD} {m : Str} (c : exOk P.main.file K d = true) (e : fnQ K (exI K d.x) = d.val) (hg : mg d.x = some (.ref (ga K d.x))) (hs : mg "super" = none)
    (ht : (P.main.scope.names.lookup ("super" : Str)).isSome = false)
    (hf : ∃ (j : Nat) (p1 p2 q1 q2 q3 q4 q5 q6 r1 r2 r3 r4 : Pos), d.params = PySem.EX.iA d.f p1 p2 ∧ d.body = PySem.EX.iB d.f m j q1 q2 q3 q4 q5 q6 r1 r2 r3 r4 ∧ d.scope = PySem.EX.iS d.f ∧ (q3.endLine == q5.line) = true) :
    PySem.EX.ExT P K mg d.x d.f m d.qual (ga K d.x) (exI K d.x) (celI K d.x) (codI K d.x) := by
  obtain ⟨c1, c⟩ := ba c
  obtain ⟨c2, c⟩ := ba c
  obtain ⟨c3, c⟩ := ba c
  obtain ⟨c4, c⟩ := ba c
  obtain ⟨c5, c⟩ := ba c
  obtain ⟨c6, c⟩ := ba c
  obtain ⟨c7, c⟩ := ba c
  obtain ⟨c8, c⟩ := ba c
  obtain ⟨c9, c⟩ := ba c
  obtain ⟨c10, c⟩ := ba c
  obtain ⟨c11, c⟩ := ba c
  obtain ⟨c12, c⟩ := ba c
  obtain ⟨c13, c⟩ := ba c
  obtain ⟨c14, c⟩ := ba c
  obtain ⟨c15, c⟩ := ba c
  obtain ⟨c16, c⟩ := ba c
  obtain ⟨c17, c⟩ := ba c
  obtain ⟨c18, c⟩ := ba c
  obtain ⟨c19, c20⟩ := ba c
  refine ⟨hg, exCls_of c1, eqO_ok c2, eqO_ok c3, eqO_ok c4, eqO_ok c5, eqO_ok c6, of_decide_eq_true c7, c8, of_decide_eq_true c9, of_decide_eq_true c10, of_decide_eq_true c11, c12, of_decide_eq_true c13, eqO_ok c14, eqO_ok c15, of_decide_eq_true c16, hs, ht, celB_of c17, codB_of c18, ?_⟩
  obtain ⟨j, p1, p2, q1, q2, q3, q4, q5, q6, r1, r2, r3, r4, f1, f2, f3, f4⟩ := hf
  unfold fnQ at e
  unfold codR at c19
  have hcel : celI K d.x = match K.lookup (exI K d.x) with
    | some ⟨_, _, .func fd, _⟩ => (match fd.closure with
      | [(_, c)] => c
      | _ => 0)
    | _ => 0 := rfl
  have hcod : codI K d.x = match K.lookup (exI K d.x) with
    | some ⟨_, _, .func fd, _⟩ => (match fd.code with
      | .ref c => c
      | _ => 0)
    | _ => 0 := rfl
  cases q : K.lookup (exI K d.x) with
  | none =>
    rw [q] at c19
    cases c19
  | some o =>
    obtain ⟨oc, od, dt, osl⟩ := o
    rw [q] at c19 e hcel hcod
    cases dt with
    | func fd =>
      obtain ⟨n1, n2, n3, n4, n5, n6, n7, n8, n9, n10, n11, n12, n13, n14, n15⟩ := fd
      have e2 : (some (n1, n2, n3, n4, n5, n6, n7.map (·.1), n8, n9, n15) : FnQ) = (some (("__init__" : Str), d.qual, d.params, FuncBody.stmts d.body, d.scope, mainGlobals, [("__class__" : Str)], Value.none, Value.none, builtinsNs) : FnQ) := e
      simp only [Option.some.injEq, Prod.mk.injEq] at e2
      obtain ⟨h1, h2, h3, h4, h5, h6, h7, h8, h9, h10⟩ := e2
      subst h1 h2 h3 h4 h5 h6 h8 h9 h10
      match n7, h7, hcel with
      | [(y, cc)], h7, hcel =>
        have hy : y = "__class__" := by
          have : [y] = [("__class__" : Str)] := h7
          injection this
        subst hy
        cases n13 with
        | ref cd =>
          have hcel : celI K d.x = cc := hcel
          have hcod : codI K d.x = cd := hcod
          rw [hcod] at c20 ⊢
          rw [hcel]
          refine ⟨oc, od, n10, n11, n12, n14, osl, j, p1, p2, q1, q2, q3, q4, q5, q6, r1, r2, r3, r4, ?_, c20, f4⟩
          rw [f1, f2, f3]
        | _ => cases c19
    | _ => cases c19
/-! ### a class's constants -/
def clsVB (K : PySem.W.Frag) (C f : Str) (v : Dv) : Bool := match PySem.W.findCls K (.ref (ga K C)) (.type "type") f with
  | some (.val u) => relB (v.v K) u
  | _ => false
theorem clsVB_ok {K : PySem.W.Frag} {C f : Str} {v : Dv} (h : clsVB K C f v = true) : ∃ u, ClX.CVal K (ga K C) (.type "type") f (v.v K) u := by
  unfold clsVB at h
  split at h
  · rename_i u e
    exact ⟨u, e, relB_ok h⟩
  · cases h
def clsRB (K : PySem.W.Frag) (C : Str) : Bool := PySem.W.readsIn K (ga K C) (.type "type") && eqO (PySem.W.specialIn K (.ref (ga K C)) "__getattribute__") (some (some (.builtin "type.__getattribute__")))
theorem clsRB_ok {K : PySem.W.Frag} {C : Str} (h : clsRB K C = true) : ClX.CRead K (ga K C) (.type "type") := by
  obtain ⟨h1, h2⟩ := ba h
  exact ⟨h1, eqO_ok h2⟩
/-! ### the Hook -/
abbrev AlQ : Type := AlD × (Bool × List FnQ)
def obsQ (fa : List Fa) (fn : List DefD) (ex : PySem.W.Frag → Bool) (file : Str) (xs : List ExD) (K : PySem.W.Frag) : AlQ := (obsD fa fn K, (ex K && xs.all fun d => exOk file K d, xs.map fun d => fnQ K (exI K d.x)))
def valQ (fn : List DefD) (xs : List ExD) : AlQ := (valD fn, (true, xs.map ExD.val))
def SaysQ (fa : List Fa) (fn : List DefD) (ex : PySem.W.Frag → Bool) (file : Str) (xs : List ExD) (K : PySem.W.Frag) : Prop := obsQ fa fn ex file xs K = valQ fn xs
def obsQG (n : Nat) (fa : List Fa) (fn : List DefD) (ex : PySem.W.Frag → Bool) (file : Str) (xs : List ExD) (g : Addr → Option Obj) : AlQ := obsQ fa fn ex file xs (frG g (cStatics :: asD g n))
def hookQ (n : Nat) (fa : List Fa) (fn : List DefD) (ex : PySem.W.Frag → Bool) (file : Str) (xs : List ExD) : PySem.W.Hook where
  α := AlQ
  obs := fun s => obsQG n fa fn ex file xs s.heap.get?
  val := fun _ => valQ fn xs
  says := fun _ h => ∃ K : PySem.W.Frag, K.In h ∧ SaysQ fa fn ex file xs K
  of := fun _ _ e => ⟨_, frG_in, e⟩
  keeps := fun _ _ _ ⟨K, hK, c⟩ k => ⟨K, PySem.W.Frag.In.keeps hK k, c⟩
theorem obsQG_eq {n : Nat} {fa : List Fa} {fn : List DefD} {ex : PySem.W.Frag → Bool} {file : Str} {xs : List ExD} {g : Addr → Option Obj} {s : Shared} (h : ∀ a, g a = s.heap.get? a) : obsQG n fa fn ex file xs g = (hookQ n fa fn ex file xs).obs s := by
  have e : g = s.heap.get? := funext h
  rw [e] <;> rfl
section
variable {fa : List Fa} {fn : List DefD} {ex : PySem.W.Frag → Bool} {file : Str} {xs : List ExD} {K : PySem.W.Frag}
theorem SaysQ.d (c : SaysQ fa fn ex file xs K) : SaysD fa fn K := congrArg (fun z : AlQ => z.1) c
theorem SaysQ.con (c : SaysQ fa fn ex file xs K) : ex K = true := (ba (show (ex K && xs.all fun d => exOk file K d) = true from congrArg (fun z : AlQ => z.2.1) c)).1
theorem SaysQ.exc (c : SaysQ fa fn ex file xs K) (i : Nat) {d : ExD} (h : xs[i]? = some d := by rfl) : exOk file K d = true ∧ fnQ K (exI K d.x) = d.val := by
  have c2 := (ba (show (ex K && xs.all fun d => exOk file K d) = true from congrArg (fun z : AlQ => z.2.1) c)).2
  have e : xs.map (fun d => fnQ K (exI K d.x)) = xs.map ExD.val := congrArg (fun z : AlQ => z.2.2) c
  have e2 : (xs.map fun d => fnQ K (exI K d.x))[i]? = (xs.map ExD.val)[i]? := by rw [e]
  rw [List.getElem?_map, List.getElem?_map, h] at e2
  exact ⟨List.all_eq_true.mp c2 d (List.mem_of_getElem? h), Option.some.inj e2⟩
end
end HX
end
section
set_option Elab.async false
set_option linter.all false
set_option maxRecDepth 100000
set_option maxHeartbeats 0
/-! KH: the head's facts. -/
namespace K87
open PySem PySem.Spec PyProof.Rows L2 DL
def hF (x : Str) (i : Nat) : He.DefD := ⟨(x, none), x, x, defArgs (top i), defBody (top i), defScope (top i), [], []⟩
def hM (C m q : Str) (i j : Nat) : He.DefD := ⟨(C, some m), m, q, defArgs (cm i j), defBody (cm i j), defScope (cm i j), [], []⟩
def hE : HX.ExD := ⟨"BadLot", "lot", "BadLot.__init__", defArgs (cm 6 0), defBody (cm 6 0), defScope (cm 6 0)⟩
def fnL : List He.DefD := [hF "choices" 9,
  hF "is_lot" 10,
  hF "apart" 11,
  hF "joined" 12,
  hF "rank" 13,
  hF "ranked" 14,
  hF "inverse" 17,
  hF "reduced" 18,
  hF "pivot_of" 19,
  hF "independent_indexes" 20,
  hF "independent" 21,
  hF "minors" 23,
  hF "kept_list" 25,
  hF "first_fit" 26,
  hF "grow" 28,
  hF "reduced_form" 32,
  hF "contract" 33,
  hF "_law_cell" 35,
  hF "_law_draws" 36,
  hF "_law_tuples" 37,
  hF "_law_free" 38,
  hF "_law_points" 39,
  hF "_law_numbers" 40,
  hF "_law_rows" 41,
  hF "_law_before" 42,
  hF "_law_items" 43,
  hF "_law_same" 44,
  hF "_law_det" 45,
  hF "_law_minors" 46,
  hF "_law_by_rank" 47,
  hF "_law_kept" 48,
  hF "_law_inverse" 49,
  hF "_law_contracted" 50,
  hF "_law_refused" 51,
  hF "_law_first" 52,
  hF "law" 53,
  hM "Table" "__init__" "Table.__init__" 30 2,
  hM "Table" "row" "Table.row" 30 5,
  hM "Table" "rows_of" "Table.rows_of" 30 6,
  hM "Table" "free" "Table.free" 30 7,
  hM "Scheme" "__init__" "Scheme.__init__" 24 1,
  hM "Scheme" "check" "Scheme.check" 24 2,
  hM "Scheme" "check_ask" "Scheme.check_ask" 24 3,
  hM "Scheme" "row" "Scheme.row" 24 4,
  hM "Scheme" "first_rows" "Scheme.first_rows" 24 7,
  hM "Scheme" "fits" "Scheme.fits" 24 8]
def faL : List He.Fa := [.glo "choices", .glo "is_lot", .glo "apart", .glo "joined", .glo "rank", .glo "ranked", .glo "inverse", .glo "reduced", .glo "pivot_of", .glo "independent_indexes", .glo "independent", .glo "minors", .glo "kept_list", .glo "first_fit", .glo "grow", .glo "reduced_form", .glo "contract", .glo "_law_cell", .glo "_law_draws", .glo "_law_tuples", .glo "_law_free", .glo "_law_points", .glo "_law_numbers", .glo "_law_rows", .glo "_law_before", .glo "_law_items", .glo "_law_same", .glo "_law_det", .glo "_law_minors", .glo "_law_by_rank", .glo "_law_kept", .glo "_law_inverse", .glo "_law_contracted", .glo "_law_refused", .glo "_law_first", .glo "law", .free "range", .free "tuple", .free "sorted", .free "enumerate", .free "isinstance", .free "bool", .free "int", .free "str", .free "list", .free "len", .free "set", .free "max", .free "zip", .free "super", .glo "Table", .glo "Scheme", .glo "BadLot", .int "PRIME" 97, .cls "Table", .cls "Scheme", .mkr "Table", .mkr "Scheme", .noat "Table" "columns", .noat "Table" "_rows", .noat "Table" "things", .noat "Scheme" "table", .noat "Scheme" "size", .noat "Scheme" "spare", .noat "Scheme" "width", .meth "Table" "row", .meth "Table" "rows_of", .meth "Table" "free", .meth "Scheme" "check", .meth "Scheme" "check_ask", .meth "Scheme" "row", .meth "Scheme" "first_rows", .meth "Scheme" "fits"]
def exL (K : PySem.W.Frag) : Bool := HX.clsRB K "Table" && (HX.clsVB K "Table" "MOST_ROWS" (.int 12) && (HX.clsVB K "Table" "MOST_COLUMNS" (.int 6) && He.conB K "Scheme" "EXACT" (.bl false)))
section
variable {P : Program} {K : PySem.W.Frag} {h : Heap} {mg : Str → Option Value} {file : Str}
theorem txt_of (X : K.In h) (G : h.Ns mainGlobals mg) (c : He.SaysD faL fnL K) (e : exL K = true) : Txt K mg (He.ga K "Table") (He.ga K "Scheme") (He.ga K "BadLot") := by
  obtain ⟨e1, e⟩ := He.ba e
  obtain ⟨e2, e⟩ := He.ba e
  obtain ⟨e3, e4⟩ := He.ba e
  obtain ⟨ur, hr⟩ := HX.clsVB_ok e2
  obtain ⟨uc, hc⟩ := HX.clsVB_ok e3
  obtain ⟨ux, hx⟩ := He.conB_ok e4
  have f_choices : TxtF K mg "choices" (top 9) ["count", "size"] := by
    obtain ⟨fd, F⟩ := c.def_ 0 (d := hF "choices" 9) rfl
    exact ⟨_, fd, F, He.glo_ok X G (c.fact 0 (f := .glo "choices") rfl), F.bindsN fun _ _ _ _ _ _ us hl => match us, hl with | [_, _], _ => rfl⟩
  have f_is_lot : TxtF K mg "is_lot" (top 10) ["lot", "count"] := by
    obtain ⟨fd, F⟩ := c.def_ 1 (d := hF "is_lot" 10) rfl
    exact ⟨_, fd, F, He.glo_ok X G (c.fact 1 (f := .glo "is_lot") rfl), F.bindsN fun _ _ _ _ _ _ us hl => match us, hl with | [_, _], _ => rfl⟩
  have f_apart : TxtF K mg "apart" (top 11) ["lot", "other"] := by
    obtain ⟨fd, F⟩ := c.def_ 2 (d := hF "apart" 11) rfl
    exact ⟨_, fd, F, He.glo_ok X G (c.fact 2 (f := .glo "apart") rfl), F.bindsN fun _ _ _ _ _ _ us hl => match us, hl with | [_, _], _ => rfl⟩
  have f_joined : TxtF K mg "joined" (top 12) ["lot", "other"] := by
    obtain ⟨fd, F⟩ := c.def_ 3 (d := hF "joined" 12) rfl
    exact ⟨_, fd, F, He.glo_ok X G (c.fact 3 (f := .glo "joined") rfl), F.bindsN fun _ _ _ _ _ _ us hl => match us, hl with | [_, _], _ => rfl⟩
  have f_rank : TxtF K mg "rank" (top 13) ["item"] := by
    obtain ⟨fd, F⟩ := c.def_ 4 (d := hF "rank" 13) rfl
    exact ⟨_, fd, F, He.glo_ok X G (c.fact 4 (f := .glo "rank") rfl), F.bindsN fun _ _ _ _ _ _ us hl => match us, hl with | [_], _ => rfl⟩
  have f_ranked : TxtF K mg "ranked" (top 14) ["items"] := by
    obtain ⟨fd, F⟩ := c.def_ 5 (d := hF "ranked" 14) rfl
    exact ⟨_, fd, F, He.glo_ok X G (c.fact 5 (f := .glo "ranked") rfl), F.bindsN fun _ _ _ _ _ _ us hl => match us, hl with | [_], _ => rfl⟩
  have f_inverse : TxtF K mg "inverse" (top 17) ["number"] := by
    obtain ⟨fd, F⟩ := c.def_ 6 (d := hF "inverse" 17) rfl
    exact ⟨_, fd, F, He.glo_ok X G (c.fact 6 (f := .glo "inverse") rfl), F.bindsN fun _ _ _ _ _ _ us hl => match us, hl with | [_], _ => rfl⟩
  have f_reduced : TxtF K mg "reduced" (top 18) ["row", "basis"] := by
    obtain ⟨fd, F⟩ := c.def_ 7 (d := hF "reduced" 18) rfl
    exact ⟨_, fd, F, He.glo_ok X G (c.fact 7 (f := .glo "reduced") rfl), F.bindsN fun _ _ _ _ _ _ us hl => match us, hl with | [_, _], _ => rfl⟩
  have f_pivot_of : TxtF K mg "pivot_of" (top 19) ["row"] := by
    obtain ⟨fd, F⟩ := c.def_ 8 (d := hF "pivot_of" 19) rfl
    exact ⟨_, fd, F, He.glo_ok X G (c.fact 8 (f := .glo "pivot_of") rfl), F.bindsN fun _ _ _ _ _ _ us hl => match us, hl with | [_], _ => rfl⟩
  have f_independent_indexes : TxtF K mg "independent_indexes" (top 20) ["rows"] := by
    obtain ⟨fd, F⟩ := c.def_ 9 (d := hF "independent_indexes" 20) rfl
    exact ⟨_, fd, F, He.glo_ok X G (c.fact 9 (f := .glo "independent_indexes") rfl), F.bindsN fun _ _ _ _ _ _ us hl => match us, hl with | [_], _ => rfl⟩
  have f_independent : TxtF K mg "independent" (top 21) ["rows"] := by
    obtain ⟨fd, F⟩ := c.def_ 10 (d := hF "independent" 21) rfl
    exact ⟨_, fd, F, He.glo_ok X G (c.fact 10 (f := .glo "independent") rfl), F.bindsN fun _ _ _ _ _ _ us hl => match us, hl with | [_], _ => rfl⟩
  have f_minors : TxtF K mg "minors" (top 23) ["rows", "columns"] := by
    obtain ⟨fd, F⟩ := c.def_ 11 (d := hF "minors" 23) rfl
    exact ⟨_, fd, F, He.glo_ok X G (c.fact 11 (f := .glo "minors") rfl), F.bindsN fun _ _ _ _ _ _ us hl => match us, hl with | [_, _], _ => rfl⟩
  have f_kept_list : TxtF K mg "kept_list" (top 25) ["scheme", "items"] := by
    obtain ⟨fd, F⟩ := c.def_ 12 (d := hF "kept_list" 25) rfl
    exact ⟨_, fd, F, He.glo_ok X G (c.fact 12 (f := .glo "kept_list") rfl), F.bindsN fun _ _ _ _ _ _ us hl => match us, hl with | [_, _], _ => rfl⟩
  have f_first_fit : TxtF K mg "first_fit" (top 26) ["scheme", "items", "ask"] := by
    obtain ⟨fd, F⟩ := c.def_ 13 (d := hF "first_fit" 26) rfl
    exact ⟨_, fd, F, He.glo_ok X G (c.fact 13 (f := .glo "first_fit") rfl), F.bindsN fun _ _ _ _ _ _ us hl => match us, hl with | [_, _, _], _ => rfl⟩
  have f_grow : TxtF K mg "grow" (top 28) ["items", "thing", "worth"] := by
    obtain ⟨fd, F⟩ := c.def_ 14 (d := hF "grow" 28) rfl
    exact ⟨_, fd, F, He.glo_ok X G (c.fact 14 (f := .glo "grow") rfl), F.bindsN fun _ _ _ _ _ _ us hl => match us, hl with | [_, _, _], _ => rfl⟩
  have f_reduced_form : TxtF K mg "reduced_form" (top 32) ["rows"] := by
    obtain ⟨fd, F⟩ := c.def_ 15 (d := hF "reduced_form" 32) rfl
    exact ⟨_, fd, F, He.glo_ok X G (c.fact 15 (f := .glo "reduced_form") rfl), F.bindsN fun _ _ _ _ _ _ us hl => match us, hl with | [_], _ => rfl⟩
  have f_contract : TxtF K mg "contract" (top 33) ["table", "lot"] := by
    obtain ⟨fd, F⟩ := c.def_ 16 (d := hF "contract" 33) rfl
    exact ⟨_, fd, F, He.glo_ok X G (c.fact 16 (f := .glo "contract") rfl), F.bindsN fun _ _ _ _ _ _ us hl => match us, hl with | [_, _], _ => rfl⟩
  have f__law_cell : TxtF K mg "_law_cell" (top 35) ["script", "k"] := by
    obtain ⟨fd, F⟩ := c.def_ 17 (d := hF "_law_cell" 35) rfl
    exact ⟨_, fd, F, He.glo_ok X G (c.fact 17 (f := .glo "_law_cell") rfl), F.bindsN fun _ _ _ _ _ _ us hl => match us, hl with | [_, _], _ => rfl⟩
  have f__law_draws : TxtF K mg "_law_draws" (top 36) ["cell", "limits"] := by
    obtain ⟨fd, F⟩ := c.def_ 18 (d := hF "_law_draws" 36) rfl
    exact ⟨_, fd, F, He.glo_ok X G (c.fact 18 (f := .glo "_law_draws") rfl), F.bindsN fun _ _ _ _ _ _ us hl => match us, hl with | [_, _], _ => rfl⟩
  have f__law_tuples : TxtF K mg "_law_tuples" (top 37) ["count", "size"] := by
    obtain ⟨fd, F⟩ := c.def_ 19 (d := hF "_law_tuples" 37) rfl
    exact ⟨_, fd, F, He.glo_ok X G (c.fact 19 (f := .glo "_law_tuples") rfl), F.bindsN fun _ _ _ _ _ _ us hl => match us, hl with | [_, _], _ => rfl⟩
  have f__law_free : TxtF K mg "_law_free" (top 38) ["rows", "width"] := by
    obtain ⟨fd, F⟩ := c.def_ 20 (d := hF "_law_free" 38) rfl
    exact ⟨_, fd, F, He.glo_ok X G (c.fact 20 (f := .glo "_law_free") rfl), F.bindsN fun _ _ _ _ _ _ us hl => match us, hl with | [_, _], _ => rfl⟩
  have f__law_points : TxtF K mg "_law_points" (top 39) ["numbers", "columns"] := by
    obtain ⟨fd, F⟩ := c.def_ 21 (d := hF "_law_points" 39) rfl
    exact ⟨_, fd, F, He.glo_ok X G (c.fact 21 (f := .glo "_law_points") rfl), F.bindsN fun _ _ _ _ _ _ us hl => match us, hl with | [_, _], _ => rfl⟩
  have f__law_numbers : TxtF K mg "_law_numbers" (top 40) ["things", "cell"] := by
    obtain ⟨fd, F⟩ := c.def_ 22 (d := hF "_law_numbers" 40) rfl
    exact ⟨_, fd, F, He.glo_ok X G (c.fact 22 (f := .glo "_law_numbers") rfl), F.bindsN fun _ _ _ _ _ _ us hl => match us, hl with | [_, _], _ => rfl⟩
  have f__law_rows : TxtF K mg "_law_rows" (top 41) ["menu", "things", "columns", "script"] := by
    obtain ⟨fd, F⟩ := c.def_ 23 (d := hF "_law_rows" 41) rfl
    exact ⟨_, fd, F, He.glo_ok X G (c.fact 23 (f := .glo "_law_rows") rfl), F.bindsN fun _ _ _ _ _ _ us hl => match us, hl with | [_, _, _, _], _ => rfl⟩
  have f__law_before : TxtF K mg "_law_before" (top 42) ["one", "other"] := by
    obtain ⟨fd, F⟩ := c.def_ 24 (d := hF "_law_before" 42) rfl
    exact ⟨_, fd, F, He.glo_ok X G (c.fact 24 (f := .glo "_law_before") rfl), F.bindsN fun _ _ _ _ _ _ us hl => match us, hl with | [_, _], _ => rfl⟩
  have f__law_items : TxtF K mg "_law_items" (top 43) ["script", "lots", "most"] := by
    obtain ⟨fd, F⟩ := c.def_ 25 (d := hF "_law_items" 43) rfl
    exact ⟨_, fd, F, He.glo_ok X G (c.fact 25 (f := .glo "_law_items") rfl), F.bindsN fun _ _ _ _ _ _ us hl => match us, hl with | [_, _, _], _ => rfl⟩
  have f__law_same : TxtF K mg "_law_same" (top 44) ["told", "due"] := by
    obtain ⟨fd, F⟩ := c.def_ 26 (d := hF "_law_same" 44) rfl
    exact ⟨_, fd, F, He.glo_ok X G (c.fact 26 (f := .glo "_law_same") rfl), F.bindsN fun _ _ _ _ _ _ us hl => match us, hl with | [_, _], _ => rfl⟩
  have f__law_det : TxtF K mg "_law_det" (top 45) ["rows"] := by
    obtain ⟨fd, F⟩ := c.def_ 27 (d := hF "_law_det" 45) rfl
    exact ⟨_, fd, F, He.glo_ok X G (c.fact 27 (f := .glo "_law_det") rfl), F.bindsN fun _ _ _ _ _ _ us hl => match us, hl with | [_], _ => rfl⟩
  have f__law_minors : TxtF K mg "_law_minors" (top 46) ["rows", "lot", "columns"] := by
    obtain ⟨fd, F⟩ := c.def_ 28 (d := hF "_law_minors" 46) rfl
    exact ⟨_, fd, F, He.glo_ok X G (c.fact 28 (f := .glo "_law_minors") rfl), F.bindsN fun _ _ _ _ _ _ us hl => match us, hl with | [_, _, _], _ => rfl⟩
  have f__law_by_rank : TxtF K mg "_law_by_rank" (top 47) ["items"] := by
    obtain ⟨fd, F⟩ := c.def_ 29 (d := hF "_law_by_rank" 47) rfl
    exact ⟨_, fd, F, He.glo_ok X G (c.fact 29 (f := .glo "_law_by_rank") rfl), F.bindsN fun _ _ _ _ _ _ us hl => match us, hl with | [_], _ => rfl⟩
  have f__law_kept : TxtF K mg "_law_kept" (top 48) ["rows", "columns", "order"] := by
    obtain ⟨fd, F⟩ := c.def_ 30 (d := hF "_law_kept" 48) rfl
    exact ⟨_, fd, F, He.glo_ok X G (c.fact 30 (f := .glo "_law_kept") rfl), F.bindsN fun _ _ _ _ _ _ us hl => match us, hl with | [_, _, _], _ => rfl⟩
  have f__law_inverse : TxtF K mg "_law_inverse" (top 49) ["number"] := by
    obtain ⟨fd, F⟩ := c.def_ 31 (d := hF "_law_inverse" 49) rfl
    exact ⟨_, fd, F, He.glo_ok X G (c.fact 31 (f := .glo "_law_inverse") rfl), F.bindsN fun _ _ _ _ _ _ us hl => match us, hl with | [_], _ => rfl⟩
  have f__law_contracted : TxtF K mg "_law_contracted" (top 50) ["rows", "thing", "columns"] := by
    obtain ⟨fd, F⟩ := c.def_ 32 (d := hF "_law_contracted" 50) rfl
    exact ⟨_, fd, F, He.glo_ok X G (c.fact 32 (f := .glo "_law_contracted") rfl), F.bindsN fun _ _ _ _ _ _ us hl => match us, hl with | [_, _, _], _ => rfl⟩
  have f__law_refused : TxtF K mg "_law_refused" (top 51) ["table", "thing"] := by
    obtain ⟨fd, F⟩ := c.def_ 33 (d := hF "_law_refused" 51) rfl
    exact ⟨_, fd, F, He.glo_ok X G (c.fact 33 (f := .glo "_law_refused") rfl), F.bindsN fun _ _ _ _ _ _ us hl => match us, hl with | [_, _], _ => rfl⟩
  have f__law_first : TxtF K mg "_law_first" (top 52) ["rows", "columns", "items", "ask"] := by
    obtain ⟨fd, F⟩ := c.def_ 34 (d := hF "_law_first" 52) rfl
    exact ⟨_, fd, F, He.glo_ok X G (c.fact 34 (f := .glo "_law_first") rfl), F.bindsN fun _ _ _ _ _ _ us hl => match us, hl with | [_, _, _, _], _ => rfl⟩
  have f_law : TxtF K mg "law" (top 53) ["script"] := by
    obtain ⟨fd, F⟩ := c.def_ 35 (d := hF "law" 53) rfl
    exact ⟨_, fd, F, He.glo_ok X G (c.fact 35 (f := .glo "law") rfl), F.bindsN fun _ _ _ _ _ _ us hl => match us, hl with | [_], _ => rfl⟩
  have m_Table___init__ : TxtI K (He.ga K "Table") "Table.__init__" (cm 30 2) ["self", "rows", "columns"] := by
    obtain ⟨fd, F⟩ := c.def_ 36 (d := hM "Table" "__init__" "Table.__init__" 30 2) rfl
    exact ⟨_, fd, F, He.mkr_ok (c.fact 56 (f := .mkr "Table") rfl), F.bindsN fun _ _ _ _ _ _ us hl => match us, hl with | [_, _, _], _ => rfl⟩
  have m_Table_row : TxtM K (He.ga K "Table") "row" "Table.row" (cm 30 5) ["self", "thing"] := by
    obtain ⟨fd, F⟩ := c.def_ 37 (d := hM "Table" "row" "Table.row" 30 5) rfl
    exact ⟨_, fd, F, He.meth_ok (c.fact 65 (f := .meth "Table" "row") rfl), F.bindsN fun _ _ _ _ _ _ us hl => match us, hl with | [_, _], _ => rfl⟩
  have m_Table_rows_of : TxtM K (He.ga K "Table") "rows_of" "Table.rows_of" (cm 30 6) ["self", "things"] := by
    obtain ⟨fd, F⟩ := c.def_ 38 (d := hM "Table" "rows_of" "Table.rows_of" 30 6) rfl
    exact ⟨_, fd, F, He.meth_ok (c.fact 66 (f := .meth "Table" "rows_of") rfl), F.bindsN fun _ _ _ _ _ _ us hl => match us, hl with | [_, _], _ => rfl⟩
  have m_Table_free : TxtM K (He.ga K "Table") "free" "Table.free" (cm 30 7) ["self", "things"] := by
    obtain ⟨fd, F⟩ := c.def_ 39 (d := hM "Table" "free" "Table.free" 30 7) rfl
    exact ⟨_, fd, F, He.meth_ok (c.fact 67 (f := .meth "Table" "free") rfl), F.bindsN fun _ _ _ _ _ _ us hl => match us, hl with | [_, _], _ => rfl⟩
  have m_Scheme___init__ : TxtI K (He.ga K "Scheme") "Scheme.__init__" (cm 24 1) ["self", "table", "size"] := by
    obtain ⟨fd, F⟩ := c.def_ 40 (d := hM "Scheme" "__init__" "Scheme.__init__" 24 1) rfl
    exact ⟨_, fd, F, He.mkr_ok (c.fact 57 (f := .mkr "Scheme") rfl), F.bindsN fun _ _ _ _ _ _ us hl => match us, hl with | [_, _, _], _ => rfl⟩
  have m_Scheme_check : TxtM K (He.ga K "Scheme") "check" "Scheme.check" (cm 24 2) ["self", "lot"] := by
    obtain ⟨fd, F⟩ := c.def_ 41 (d := hM "Scheme" "check" "Scheme.check" 24 2) rfl
    exact ⟨_, fd, F, He.meth_ok (c.fact 68 (f := .meth "Scheme" "check") rfl), F.bindsN fun _ _ _ _ _ _ us hl => match us, hl with | [_, _], _ => rfl⟩
  have m_Scheme_check_ask : TxtM K (He.ga K "Scheme") "check_ask" "Scheme.check_ask" (cm 24 3) ["self", "ask"] := by
    obtain ⟨fd, F⟩ := c.def_ 42 (d := hM "Scheme" "check_ask" "Scheme.check_ask" 24 3) rfl
    exact ⟨_, fd, F, He.meth_ok (c.fact 69 (f := .meth "Scheme" "check_ask") rfl), F.bindsN fun _ _ _ _ _ _ us hl => match us, hl with | [_, _], _ => rfl⟩
  have m_Scheme_row : TxtM K (He.ga K "Scheme") "row" "Scheme.row" (cm 24 4) ["self", "lot"] := by
    obtain ⟨fd, F⟩ := c.def_ 43 (d := hM "Scheme" "row" "Scheme.row" 24 4) rfl
    exact ⟨_, fd, F, He.meth_ok (c.fact 70 (f := .meth "Scheme" "row") rfl), F.bindsN fun _ _ _ _ _ _ us hl => match us, hl with | [_, _], _ => rfl⟩
  have m_Scheme_first_rows : TxtM K (He.ga K "Scheme") "first_rows" "Scheme.first_rows" (cm 24 7) ["self", "rows"] := by
    obtain ⟨fd, F⟩ := c.def_ 44 (d := hM "Scheme" "first_rows" "Scheme.first_rows" 24 7) rfl
    exact ⟨_, fd, F, He.meth_ok (c.fact 71 (f := .meth "Scheme" "first_rows") rfl), F.bindsN fun _ _ _ _ _ _ us hl => match us, hl with | [_, _], _ => rfl⟩
  have m_Scheme_fits : TxtM K (He.ga K "Scheme") "fits" "Scheme.fits" (cm 24 8) ["self", "lot", "ask"] := by
    obtain ⟨fd, F⟩ := c.def_ 45 (d := hM "Scheme" "fits" "Scheme.fits" 24 8) rfl
    exact ⟨_, fd, F, He.meth_ok (c.fact 72 (f := .meth "Scheme" "fits") rfl), F.bindsN fun _ _ _ _ _ _ us hl => match us, hl with | [_, _, _], _ => rfl⟩
  have cT : TabT K mg (He.ga K "Table") := ⟨He.glo_ok X G (c.fact 50 (f := .glo "Table") rfl), He.cls_ok (c.fact 54 (f := .cls "Table") rfl), He.noat_ok (c.fact 58 (f := .noat "Table" "columns") rfl), He.noat_ok (c.fact 59 (f := .noat "Table" "_rows") rfl), He.noat_ok (c.fact 60 (f := .noat "Table" "things") rfl), m_Table___init__, m_Table_row, m_Table_rows_of, m_Table_free, ⟨_, HX.clsRB_ok e1, ⟨ur, hr⟩, uc, hc⟩⟩
  have cS : SchT K mg (He.ga K "Scheme") := ⟨He.glo_ok X G (c.fact 51 (f := .glo "Scheme") rfl), He.cls_ok (c.fact 55 (f := .cls "Scheme") rfl), He.noat_ok (c.fact 61 (f := .noat "Scheme" "table") rfl), He.noat_ok (c.fact 62 (f := .noat "Scheme" "size") rfl), He.noat_ok (c.fact 63 (f := .noat "Scheme" "spare") rfl), He.noat_ok (c.fact 64 (f := .noat "Scheme" "width") rfl), m_Scheme___init__, m_Scheme_check, m_Scheme_check_ask, m_Scheme_row, m_Scheme_first_rows, m_Scheme_fits, ux, hx⟩
  exact ⟨He.free_ok X G (c.fact 36 (f := .free "range") rfl), He.free_ok X G (c.fact 37 (f := .free "tuple") rfl), He.free_ok X G (c.fact 38 (f := .free "sorted") rfl), He.free_ok X G (c.fact 39 (f := .free "enumerate") rfl), He.free_ok X G (c.fact 40 (f := .free "isinstance") rfl), He.free_ok X G (c.fact 41 (f := .free "bool") rfl), He.free_ok X G (c.fact 42 (f := .free "int") rfl), He.free_ok X G (c.fact 43 (f := .free "str") rfl), He.free_ok X G (c.fact 44 (f := .free "list") rfl), He.free_ok X G (c.fact 45 (f := .free "len") rfl), He.free_ok X G (c.fact 46 (f := .free "set") rfl), He.free_ok X G (c.fact 47 (f := .free "max") rfl), He.free_ok X G (c.fact 48 (f := .free "zip") rfl), He.int_ok X G (c.fact 53 (f := .int "PRIME" 97) rfl), cT, cS, f_choices, f_is_lot, f_apart, f_joined, f_rank, f_ranked, f_inverse, f_reduced, f_pivot_of, f_independent_indexes, f_independent, f_minors, f_kept_list, f_first_fit, f_grow, f_reduced_form, f_contract, f__law_cell, f__law_draws, f__law_tuples, f__law_free, f__law_points, f__law_numbers, f__law_rows, f__law_before, f__law_items, f__law_same, f__law_det, f__law_minors, f__law_by_rank, f__law_kept, f__law_inverse, f__law_contracted, f__law_refused, f__law_first, f_law⟩
end
end K87
end
set_option Elab.async false
set_option linter.all false
set_option maxRecDepth 100000
set_option maxHeartbeats 0
/-! KZ: the head's run, and the end. -/
namespace K87
open PySem PySem.Spec PyProof.Rows L2 DL
def nm0 : List PySem.Str := ["_wall", "__name__", "ServeError", "NoInverse", "BadTable", "BadSize", "BadLot", "BadAsk", "choices", "is_lot", "apart", "joined", "rank", "ranked", "PRIME", "inverse", "reduced", "pivot_of", "independent_indexes", "independent", "minors", "Scheme", "kept_list", "first_fit", "grow", "Table", "reduced_form", "contract", "_law_cell", "_law_draws"]
def nm1 : List PySem.Str := ["_law_tuples", "_law_free", "_law_points", "_law_numbers", "_law_rows", "_law_before", "_law_items", "_law_same", "_law_det", "_law_minors", "_law_by_rank", "_law_kept", "_law_inverse", "_law_contracted", "_law_refused", "_law_first"]
def loose : List PySem.Str := nm0 ++ nm1
abbrev Rw0 : PySem.W.OpenRow := PySem.W.OpenLaw.row PySem.Challenge.rw_layersserve_k75_whole_contracted_growth
def fileL : PySem.Str := PySem.Challenge.pw_layersserve_k75_whole_contracted_growth.main.file
abbrev hk : PySem.W.Hook := HX.hookQ 5 faL fnL exL fileL [hE]
def ob (s : PySem.W.SharedT) : HX.AlQ := HX.obsQG 5 faL fnL exL fileL [hE] (HandSHeadRun.getT s)
theorem ob_eq (s : PySem.W.SharedT) : ob s = hk.obs s.abs := HX.obsQG_eq (HandSHeadRun.getT_eq s)
theorem run (w : World) : HandSHeadRun.RunEq Rw0 (PySem.W.view Rw0.prog [53]) hk ob 4000 loose w := by
  intro os
  kernel_rfl
theorem exForm : ∃ (j : Nat) (p1 p2 q1 q2 q3 q4 q5 q6 r1 r2 r3 r4 : Pos), hE.params = PySem.EX.iA hE.f p1 p2 ∧ hE.body = PySem.EX.iB hE.f "the lot does not fit" j q1 q2 q3 q4 q5 q6 r1 r2 r3 r4 ∧ hE.scope = PySem.EX.iS hE.f ∧ (q3.endLine == q5.line) = true :=
  ⟨_, _, _, _, _, _, _, _, _, _, _, _, _, rfl, rfl, rfl, rfl⟩
theorem facts {w : World} {K : PySem.W.Frag} {h : Heap} {mg : Str → Option Value} {f : Addr} (X : K.In h) (G : h.Ns mainGlobals mg) (hfa : mg ("law" : Str) = some (.ref f)) (c : HX.SaysQ faL fnL exL fileL [hE] K) :
    ∃ fd : FuncData, (∀ (s : Shared) (v : Value), BindsTo s fd ⟨[v], []⟩ [("script", v)]) ∧ ∀ base : Heap, FnOk PySem.Challenge.rw_layersserve_k75_whole_contracted_growth.prog w K mg base CX0 13 f fd ["script"] (spD K [false] g_law) := by
  have T := txt_of X G c.d c.con
  have fsup : mg ("super" : Str) = none := He.free_ok X G (He.SaysD.fact c.d 49 (f := .free "super") rfl)
  obtain ⟨x1, x2⟩ := c.exc 0 (d := hE) rfl
  have gB : mg hE.x = some (.ref (He.ga K hE.x)) := He.glo_ok X G (He.SaysD.fact c.d 52 (f := .glo "BadLot") rfl)
  have XT : BadT PySem.Challenge.rw_layersserve_k75_whole_contracted_growth.prog K mg (He.ga K "BadLot") := ⟨_, _, _, HX.exT_of (P := PySem.Challenge.rw_layersserve_k75_whole_contracted_growth.prog) x1 x2 gB fsup (by kernel_rfl) exForm⟩
  obtain ⟨fl, fd, FL, hm, _⟩ := T.f_law
  have e := hfa.symm.trans hm
  cases e
  have b := FunD.bindsA (ps := ["script"]) FL fun _ _ _ _ _ _ us hl => match us, hl with | [_], _ => rfl
  exact ⟨fd, fun s v => b s [v] rfl, fun base => law_ok T XT FL⟩
theorem sp_law {K : PySem.W.Frag} (H : Hp) (a : Addr) (ns : List Int) (hl : ns.length ≤ 63) (hS : SqL K H a (ns.map V.int)) : spD K [false] g_law [.ref a] H (fun v _ => v = .bl true) fun _ _ _ => False :=
  ⟨H, [.scr ns], fun d => d = .bl true, Same.refl H, .wk (.st (.scr hS)) .nil, ⟨ns, rfl, hl, rfl⟩, fun B' H' v d _ r e => by
    subst e
    cases r
    rfl⟩
end K87
open PySem PySem.W PySem.Calls PyProof.Rows
theorem PySem.Challenge.cw_layersserve_k75_whole_contracted_growth_holds : PySem.Challenge.rw_layersserve_k75_whole_contracted_growth.Holds := by
  w_on; o_law
  refine HandSHeadRun.head_any (r := OpenLaw.row PySem.Challenge.rw_layersserve_k75_whole_contracted_growth) (q := view (OpenLaw.row PySem.Challenge.rw_layersserve_k75_whole_contracted_growth).prog [53]) (H := K87.hk) (ob := K87.ob) (M := 4000) (loose := K87.loose) (d := HandSHeadRun.topDef (OpenLaw.row PySem.Challenge.rw_layersserve_k75_whole_contracted_growth).prog 53) (kwd := []) K87.ob_eq
    (by kernel_rfl) (fun s => by kernel_rfl) K87.run (by kernel_rfl) (by kernel_rfl) (by kernel_rfl) (by rfl) (by first | assumption | decide +kernel) (by decide +kernel) ⟨rfl, rfl, rfl, rfl, rfl, by decide +kernel⟩ ?hw ?hc
  case hw => w_witness2
  case hc =>
    refine L2.walk_ofE (l := PySem.Challenge.rw_layersserve_k75_whole_contracted_growth) (n := 63) (k := 13) (x := "script") (CX := L2.CX0) rfl (by decide) (by kernel_rfl) ⟨rfl, by decide, by decide⟩ ?F (fun _ _ _ _ z => z)
    intro w mg fa h Y G hmg0
    obtain ⟨K, KX, c⟩ := Y
    have hmg : mg ("law" : PySem.Str) = some (.ref fa) := by
      have e : (HandSHeadRun.topDef (OpenLaw.row PySem.Challenge.rw_layersserve_k75_whole_contracted_growth).prog 53).name = ("law" : PySem.Str) := by kernel_rfl
      rw [← e]
      exact hmg0
    obtain ⟨fd, hb, hF⟩ := K87.facts (w := w) KX G hmg c
    exact ⟨K, fd, DL.spD K [false] K87.g_law, KX, hb, fun H a ns hl _ hS => K87.sp_law H a ns hl hS, fun base _ _ => hF base⟩
