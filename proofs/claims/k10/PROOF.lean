import PyProof.Rows.All
import Wide.All
import OpenK.AllK
import Wide.FinOn
import PySem.Challenge.RW_voicerows_k10_whole_good_and_lean_sets
import HandS.ForMost
import HandS.Exc
import HandS.ExcOwn
import HandS.WordsExc
import HandS.CallSlots
import HandS.Conv
import HandS.Style
import HandS.Wide
import HandS.WideBits
import HandS.IsInst
import HandS.Defaults
import HandS.NoneIn
import HandS.Rev
import HandS.Zip
import HandS.Deep
import HandS.SortInts
import HandS.RaiseMore
import KE.SortData
import KE.KSortedM
import HandS.TryMany
import HandS.TupLe
import HandS.Iter
import HandS.DictComp
import HandS.OwnEq
import HandS.MakeKwOnly
import KE.KDictSum
import HandS.SortOrd
import HandS.ExcValue
import HandS.HeadEnd
import HandS.Head0
import HandS.Head1
import HandS.Head2
import HandS.HeadHook1
import HandS.HeadHook2
import KE.KStateDown
import HandS.Base
import HandS.Call
import HandS.Ends
import HandS.More
import HandS.Words
import KE.IntBitsLaws
set_option Elab.async false
set_option linter.all false
section
set_option maxRecDepth 100000
/-! Vx1: data read off the abstract heap, outcomes, pure expressions told by functions on data. -/
namespace Vx
open PySem PySem.Spec PyProof.Rows L2

/-- the slots -/
abbrev Sl := L2.St
/-- what a value is, read as a whole -/
inductive D where
  | non | bl (b : Bool) | int (i : Int) | str (x : Str)
  | lst (ds : List D) | tup (ds : List D)
  | dK (kvs : List (Key × D)) | dT (kvs : List (List Key × D)) | dF (kvs : List (Key × D))
  | ins (n : Nat) (fs : List (Str × D))
  | scr (ns : List Int)
  | exn (n : Nat) (d : D)

/-- an exception of the n-th own class with its one field -/
structure Exn where
  n : Nat
  d : D

inductive Out (α : Type) where
  | stuck | ok (a : α) | exc (x : Exn)

namespace Out
def bind {α β : Type} : Out α → (α → Out β) → Out β
  | .stuck, _ => .stuck
  | .ok a, f => f a
  | .exc x, _ => .exc x
instance : Monad Out where
  pure := .ok
  bind := bind
@[simp] theorem bind_ok {α β : Type} (a : α) (f : α → Out β) : (Out.ok a).bind f = f a := id rfl
@[simp] theorem bind_stuck {α β : Type} (f : α → Out β) : (Out.stuck : Out α).bind f = .stuck := id rfl
@[simp] theorem bind_exc {α β : Type} (x : Exn) (f : α → Out β) : (Out.exc x : Out α).bind f = .exc x := id rfl
def ofOpt {α : Type} : Option α → Out α
  | some a => .ok a
  | none => .stuck
/-- on, where the condition holds -/
def guard {α : Type} (c : Bool) (o : Out α) : Out α := if c = true then o else .stuck
@[simp] theorem guard_true {α : Type} (o : Out α) : guard true o = o := id rfl
theorem guard_of {α : Type} {c : Bool} {o : Out α} (h : c = true) : guard c o = o := by rw [h]; rfl
end Out
open Out (guard)

section
variable (K : PySem.W.Frag) (cl : Nat → Addr)
mutual
/-- v is d, read in the abstract heap G -/
inductive R (G : Hp) : V → D → Prop
  | non : R G .non .non
  | bl (b : Bool) : R G (.bl b) (.bl b)
  | int (i : Int) : R G (.int i) (.int i)
  | str (x : Str) : R G (.str x) (.str x)
  | lst {a : Addr} {xs : List V} {ds : List D} : G a = some (.lst xs) → RL G xs ds → R G (.ref a) (.lst ds)
  | tup {a : Addr} {xs : List V} {ds : List D} : G a = some (.tup xs) → RL G xs ds → R G (.ref a) (.tup ds)
  | dK {a : Addr} {ks : List (Key × V)} {ds : List (Key × D)} : G a = some (.dK ks) → ks.map (·.1) = ds.map (·.1) → RL G (ks.map (·.2)) (ds.map (·.2)) → R G (.ref a) (.dK ds)
  | dF {a : Addr} {o : Obj} {ks : List (Key × V)} {ds : List (Key × D)} : G a = some (.frz o (.dK ks)) → ks.map (·.1) = ds.map (·.1) → RL G (ks.map (·.2)) (ds.map (·.2)) → R G (.ref a) (.dF ds)
  | dT {a : Addr} {ks : List (List Key × V)} {ds : List (List Key × D)} : G a = some (.dT ks) → ks.map (·.1) = ds.map (·.1) → RL G (ks.map (·.2)) (ds.map (·.2)) → R G (.ref a) (.dT ds)
  | ins {a dx : Addr} {n : Nat} {fs : List (Str × V)} {ds : List (Str × D)} : G a = some (.ins (cl n) dx fs) → fs.map (·.1) = ds.map (·.1) → RL G (fs.map (·.2)) (ds.map (·.2)) → R G (.ref a) (.ins n ds)
  | scr {a : Addr} {ns : List Int} : SqL K G a (ns.map V.int) → R G (.ref a) (.scr ns)
inductive RL (G : Hp) : List V → List D → Prop
  | nil : RL G [] []
  | cons {v : V} {vs : List V} {d : D} {ds : List D} : R G v d → RL G vs ds → RL G (v :: vs) (d :: ds)
end
end
section
variable {K : PySem.W.Frag} {cl : Nat → Addr} {G G' H H' : Hp}
theorem _root_.L2.Same.sqT {a : Addr} {xs : List V} (e : Same G G') (h : SqT K G a xs) : SqT K G' a xs := by
  rcases h with (h | ⟨o, h⟩) | h
  · exact .inl (.inl (e _ _ h))
  · exact .inl (.inr ⟨o, e _ _ h⟩)
  · exact .inr h
mutual
theorem R.mono (e : Same G G') : ∀ {v : V} {d : D}, R K cl G v d → R K cl G' v d
  | _, _, .non => .non
  | _, _, .bl b => .bl b
  | _, _, .int i => .int i
  | _, _, .str x => .str x
  | _, _, .lst h r => .lst (e _ _ h) (RL.mono e r)
  | _, _, .tup h r => .tup (e _ _ h) (RL.mono e r)
  | _, _, .dK h k r => .dK (e _ _ h) k (RL.mono e r)
  | _, _, .dT h k r => .dT (e _ _ h) k (RL.mono e r)
  | _, _, .dF h k r => .dF (e _ _ h) k (RL.mono e r)
  | _, _, .ins h k r => .ins (e _ _ h) k (RL.mono e r)
  | _, _, .scr h => .scr (e.seq h)
theorem RL.mono (e : Same G G') : ∀ {vs : List V} {ds : List D}, RL K cl G vs ds → RL K cl G' vs ds
  | _, _, .nil => .nil
  | _, _, .cons a b => .cons (R.mono e a) (RL.mono e b)
end
theorem RL.length : ∀ {vs : List V} {ds : List D}, RL K cl G vs ds → vs.length = ds.length
  | _, _, .nil => rfl
  | _, _, .cons _ b => congrArg (· + 1) (RL.length b)
theorem RL.append : ∀ {vs us : List V} {ds es : List D}, RL K cl G vs ds → RL K cl G us es → RL K cl G (vs ++ us) (ds ++ es)
  | _, _, _, _, .nil, h => h
  | _, _, _, _, .cons a b, h => .cons a (RL.append b h)
theorem RL.get : ∀ {vs : List V} {ds : List D} {i : Nat} {d : D}, RL K cl G vs ds → ds[i]? = some d → ∃ v, vs[i]? = some v ∧ R K cl G v d
  | _, _, _, _, .nil, e => by simp at e
  | _, _, 0, _, .cons a _, e => by simp at e; subst e; exact ⟨_, rfl, a⟩
  | _, _, i + 1, d, .cons _ b, e => by
    obtain ⟨v, h1, h2⟩ := RL.get (i := i) (d := d) b (by simpa using e)
    exact ⟨v, by simpa using h1, h2⟩
theorem RL.get' : ∀ {vs : List V} {ds : List D} {i : Nat} {v : V}, RL K cl G vs ds → vs[i]? = some v → ∃ d, ds[i]? = some d ∧ R K cl G v d
  | _, _, _, _, .nil, e => by simp at e
  | _, _, 0, _, .cons a _, e => by simp at e; subst e; exact ⟨_, rfl, a⟩
  | _, _, i + 1, d, .cons _ b, e => by
    obtain ⟨v, h1, h2⟩ := RL.get' (i := i) (v := d) b (by simpa using e)
    exact ⟨v, by simpa using h1, h2⟩
theorem RL.take : ∀ {vs : List V} {ds : List D} (n : Nat), RL K cl G vs ds → RL K cl G (vs.take n) (ds.take n)
  | _, _, 0, _ => .nil
  | _, _, _ + 1, .nil => .nil
  | _, _, n + 1, .cons a b => .cons a (RL.take n b)
theorem RL.drop : ∀ {vs : List V} {ds : List D} (n : Nat), RL K cl G vs ds → RL K cl G (vs.drop n) (ds.drop n)
  | _, _, 0, r => r
  | _, _, _ + 1, .nil => .nil
  | _, _, n + 1, .cons _ b => RL.drop n b
theorem RL.reverse {vs : List V} {ds : List D} (h : RL K cl G vs ds) : RL K cl G vs.reverse ds.reverse := by
  induction vs generalizing ds with
  | nil => cases h; exact .nil
  | cons v vs ih =>
    cases h with
    | cons a b =>
      rw [List.reverse_cons, List.reverse_cons]
      exact (ih b).append (.cons a .nil)
theorem RL.set {v : V} {d : D} (r : R K cl G v d) : ∀ {vs : List V} {ds : List D} (i : Nat), RL K cl G vs ds → RL K cl G (vs.set i v) (ds.set i d)
  | _, _, _, .nil => .nil
  | _, _, 0, .cons _ b => .cons r b
  | _, _, i + 1, .cons a b => .cons a (RL.set r i b)
theorem RL.eraseIdx : ∀ {vs : List V} {ds : List D} (i : Nat), RL K cl G vs ds → RL K cl G (vs.eraseIdx i) (ds.eraseIdx i)
  | _, _, _, .nil => .nil
  | _, _, 0, .cons _ b => b
  | _, _, i + 1, .cons a b => .cons a (RL.eraseIdx i b)
theorem RL.dropLast : ∀ {vs : List V} {ds : List D}, RL K cl G vs ds → RL K cl G vs.dropLast ds.dropLast
  | _, _, .nil => .nil
  | _, _, .cons _ .nil => .nil
  | _, _, .cons a (.cons b c) => .cons a (RL.dropLast (.cons b c))
theorem RL.ints (ns : List Int) : RL K cl G (ns.map V.int) (ns.map D.int) := by
  induction ns with
  | nil => exact .nil
  | cons n ns ih => exact .cons (.int n) ih
theorem RL.of_ints : ∀ {vs : List V} {ns : List Int}, RL K cl G vs (ns.map D.int) → vs = ns.map V.int
  | _, [], .nil => rfl
  | _, n :: ns, .cons (.int _) b => congrArg (V.int n :: ·) (RL.of_ints b)

/-- more is known: G' beyond G, H' beyond H; what is newly known is new -/
structure Ext (G H G' H' : Hp) : Prop where
  g : Same G G'
  h : Same H H'
  s : Same G' H'
  f : ∀ b, G b = none → G' b ≠ none → H b = none
theorem Ext.refl (s : Same G H) : Ext G H G H := ⟨.refl _, .refl _, s, fun _ h h' => absurd h h'⟩
theorem Ext.trans {G1 H1 G2 H2 : Hp} (a : Ext G H G1 H1) (b : Ext G1 H1 G2 H2) : Ext G H G2 H2 :=
  ⟨a.g.trans b.g, a.h.trans b.h, b.s, fun x h h' => by
    cases q : G1 x with
    | some o => exact a.f x h (by rw [q]; simp)
    | none => exact a.h.free (b.f x q h')⟩
/-- a new object, laid and known -/
theorem Ext.new {p : Addr} {o : HO} (s : Same G H) (hp : H p = none) : Ext G H (upd G p o) (upd H p o) := by
  have hg : G p = none := s.free hp
  refine ⟨fun b x e => ?_, fun b x e => ?_, fun b x e => ?_, fun b e e' => ?_⟩
  · rw [upd_ne (ne_of_none e hg)]; exact e
  · rw [upd_ne (ne_of_none e hp)]; exact e
  · by_cases hb : b = p
    · subst hb; rw [upd_same] at e ⊢; exact e
    · rw [upd_ne hb] at e ⊢; exact s _ _ e
  · by_cases hb : b = p
    · subst hb; exact hp
    · rw [upd_ne hb] at e'; exact absurd e e'
/-- a new object, laid and kept apart -/
theorem Ext.lay {p : Addr} {o : HO} (s : Same G H) (hp : H p = none) : Ext G H G (upd H p o) :=
  ⟨.refl _, fun b x e => by rw [upd_ne (ne_of_none e hp)]; exact e, fun b x e => by rw [upd_ne (ne_of_none (s _ _ e) hp)]; exact s _ _ e, fun _ h h' => absurd h h'⟩
end

/-! ### what slots hold -/
abbrev PEnv := List (Option D)
def getV : PEnv → Nat → Out D
  | [], _ => .stuck
  | o :: _, 0 => .ofOpt o
  | _ :: r, n + 1 => getV r n
/-- slot i holds what ρ tells of it -/
structure RS (K : PySem.W.Frag) (cl : Nat → Addr) (G : Hp) (σ : Sl) (ρ : PEnv) : Prop where
  len : ρ.length = σ.length
  at_ : ∀ (i : Nat) (d : D), ρ[i]? = some (some d) → ∃ v, σ[i]? = some (some v) ∧ R K cl G v d
section
variable {K : PySem.W.Frag} {cl : Nat → Addr} {G G' H H' : Hp} {σ : Sl} {ρ : PEnv}
theorem RS.mono (e : Same G G') (h : RS K cl G σ ρ) : RS K cl G' σ ρ := ⟨h.len, fun i d q => let ⟨v, a, b⟩ := h.at_ i d q; ⟨v, a, b.mono e⟩⟩
theorem RS.set {v : V} {d : D} (h : RS K cl G σ ρ) (r : R K cl G v d) (i : Nat) : RS K cl G (σ.set i (some v)) (ρ.set i (some d)) := by
  refine ⟨by rw [List.length_set, List.length_set]; exact h.len, fun j d' q => ?_⟩
  by_cases hj : j = i
  · subst hj
    by_cases hl : j < ρ.length
    · rw [List.getElem?_set_self hl] at q
      cases q
      exact ⟨v, List.getElem?_set_self (by rw [← h.len]; exact hl), r⟩
    · rw [List.getElem?_eq_none (by rw [List.length_set]; omega)] at q
      cases q
  · rw [List.getElem?_set_ne (Ne.symm hj)] at q ⊢
    exact h.at_ j d' q
theorem RS.drop {x : Option V} (h : RS K cl G σ ρ) (i : Nat) : RS K cl G (σ.set i x) (ρ.set i none) := by
  refine ⟨by rw [List.length_set, List.length_set]; exact h.len, fun j d' q => ?_⟩
  by_cases hj : j = i
  · subst hj
    by_cases hl : j < ρ.length
    · rw [List.getElem?_set_self hl] at q
      cases q
    · rw [List.getElem?_eq_none (by rw [List.length_set]; omega)] at q
      cases q
  · rw [List.getElem?_set_ne (Ne.symm hj)] at q ⊢
    exact h.at_ j d' q
def wipeV (ρ : PEnv) : List Nat → PEnv
  | [] => ρ
  | v :: vs => (wipeV ρ vs).set v none
theorem RS.wipe (h : RS K cl G σ ρ) : ∀ vs : List Nat, RS K cl G (L2.wipe σ vs) (wipeV ρ vs)
  | [] => h
  | v :: vs => (RS.wipe h vs).drop v
theorem getV_ok : ∀ {ρ : PEnv} {i : Nat} {d : D}, getV ρ i = .ok d → ρ[i]? = some (some d)
  | [], _, _, h => by cases h
  | o :: r, 0, d, h => by
    cases o with
    | none => cases h
    | some e => cases h; rfl
  | _ :: r, n + 1, d, h => by
    have := getV_ok (ρ := r) (i := n) (d := d) h
    simpa using this
theorem getV_exc : ∀ {ρ : PEnv} {i : Nat} {x : Exn}, getV ρ i ≠ .exc x
  | [], _, _, h => by cases h
  | o :: r, 0, d, h => by cases o <;> cases h
  | _ :: r, n + 1, d, h => getV_exc (ρ := r) (i := n) h
end

/-- what is told of an exception: its class, its dict -/
def RX (K : PySem.W.Frag) (cl : Nat → Addr) (G H : Hp) (c : Value) (dx : Option Addr) (x : Exn) : Prop :=
  c = .ref (cl x.n) ∧ ∃ a v, dx = some a ∧ H a = some (.xd [("value", v)]) ∧ R K cl G v x.d

section
variable (K : PySem.W.Frag) (cl : Nat → Addr) (W : WX)
def Post (σ : Sl) (G H : Hp) (o : Out D) (Q : VK) : Prop := match o with
  | .stuck => False
  | .ok d => ∀ v G' H', Ext G H G' H' → R K cl G' v d → Q v H'
  | .exc x => ∀ c dx G' H', Ext G H G' H' → RX K cl G' H' c dx x → W c dx σ H'
/-- the same of a test -/
def PostB (σ : Sl) (G H : Hp) (o : Out Bool) (Q : Bool → Hp → Prop) : Prop := match o with
  | .stuck => False
  | .ok d => ∀ G' H', Ext G H G' H' → Q d H'
  | .exc x => ∀ c dx G' H', Ext G H G' H' → RX K cl G' H' c dx x → W c dx σ H'
/-- the same of a list of arguments -/
def PostL (σ : Sl) (G H : Hp) (o : Out (List D)) (Q : List V → Hp → Prop) : Prop := match o with
  | .stuck => False
  | .ok ds => ∀ vs G' H', Ext G H G' H' → RL K cl G' vs ds → Q vs H'
  | .exc x => ∀ c dx G' H', Ext G H G' H' → RX K cl G' H' c dx x → W c dx σ H'
end
section
variable {K : PySem.W.Frag} {cl : Nat → Addr} {W : WX} {σ : Sl} {G H G1 H1 : Hp}
theorem Post.mono {o : Out D} {Q : VK} (e : Ext G H G1 H1) (h : Post K cl W σ G H o Q) : Post K cl W σ G1 H1 o Q := by
  cases o with
  | stuck => exact h
  | ok d => exact fun v G' H' x r => h v G' H' (e.trans x) r
  | exc x => exact fun c dx G' H' y r => h c dx G' H' (e.trans y) r
theorem PostB.mono {o : Out Bool} {Q : Bool → Hp → Prop} (e : Ext G H G1 H1) (h : PostB K cl W σ G H o Q) : PostB K cl W σ G1 H1 o Q := by
  cases o with
  | stuck => exact h
  | ok d => exact fun G' H' x => h G' H' (e.trans x)
  | exc x => exact fun c dx G' H' y r => h c dx G' H' (e.trans y) r
theorem PostL.mono {o : Out (List D)} {Q : List V → Hp → Prop} (e : Ext G H G1 H1) (h : PostL K cl W σ G H o Q) : PostL K cl W σ G1 H1 o Q := by
  cases o with
  | stuck => exact h
  | ok d => exact fun v G' H' x r => h v G' H' (e.trans x) r
  | exc x => exact fun c dx G' H' y r => h c dx G' H' (e.trans y) r
theorem Post.bind {o : Out D} {f : D → Out D} {Q Q1 : VK} (h : Post K cl W σ G H (o.bind f) Q)
    (k : ∀ d v G1 H1, Ext G H G1 H1 → R K cl G1 v d → Post K cl W σ G1 H1 (f d) Q → Q1 v H1) : Post K cl W σ G H o Q1 := by
  cases o with
  | stuck => exact h
  | ok d => exact fun v G' H' x r => k d v G' H' x r (Post.mono x h)
  | exc x => exact h
theorem Post.bindB {o : Out D} {f : D → Out Bool} {Q : Bool → Hp → Prop} {Q1 : VK} (h : PostB K cl W σ G H (o.bind f) Q)
    (k : ∀ d v G1 H1, Ext G H G1 H1 → R K cl G1 v d → PostB K cl W σ G1 H1 (f d) Q → Q1 v H1) : Post K cl W σ G H o Q1 := by
  cases o with
  | stuck => exact h
  | ok d => exact fun v G' H' x r => k d v G' H' x r (PostB.mono x h)
  | exc x => exact h
theorem Post.bindL {o : Out D} {f : D → Out (List D)} {Q : List V → Hp → Prop} {Q1 : VK} (h : PostL K cl W σ G H (o.bind f) Q)
    (k : ∀ d v G1 H1, Ext G H G1 H1 → R K cl G1 v d → PostL K cl W σ G1 H1 (f d) Q → Q1 v H1) : Post K cl W σ G H o Q1 := by
  cases o with
  | stuck => exact h
  | ok d => exact fun v G' H' x r => k d v G' H' x r (PostL.mono x h)
  | exc x => exact h
theorem PostL.bind {o : Out (List D)} {f : List D → Out D} {Q : VK} {Q1 : List V → Hp → Prop} (h : Post K cl W σ G H (o.bind f) Q)
    (k : ∀ ds vs G1 H1, Ext G H G1 H1 → RL K cl G1 vs ds → Post K cl W σ G1 H1 (f ds) Q → Q1 vs H1) : PostL K cl W σ G H o Q1 := by
  cases o with
  | stuck => exact h
  | ok d => exact fun v G' H' x r => k d v G' H' x r (Post.mono x h)
  | exc x => exact h
theorem PostL.bindL {o : Out (List D)} {f : List D → Out (List D)} {Q Q1 : List V → Hp → Prop} (h : PostL K cl W σ G H (o.bind f) Q)
    (k : ∀ ds vs G1 H1, Ext G H G1 H1 → RL K cl G1 vs ds → PostL K cl W σ G1 H1 (f ds) Q → Q1 vs H1) : PostL K cl W σ G H o Q1 := by
  cases o with
  | stuck => exact h
  | ok d => exact fun v G' H' x r => k d v G' H' x r (PostL.mono x h)
  | exc x => exact h
theorem PostB.bind {o : Out Bool} {f : Bool → Out D} {Q : VK} {Q1 : Bool → Hp → Prop} (h : Post K cl W σ G H (o.bind f) Q)
    (k : ∀ d G1 H1, Ext G H G1 H1 → Post K cl W σ G1 H1 (f d) Q → Q1 d H1) : PostB K cl W σ G H o Q1 := by
  cases o with
  | stuck => exact h
  | ok d => exact fun G' H' x => k d G' H' x (Post.mono x h)
  | exc x => exact h
theorem PostB.bindB {o : Out Bool} {f : Bool → Out Bool} {Q : Bool → Hp → Prop} {Q1 : Bool → Hp → Prop} (h : PostB K cl W σ G H (o.bind f) Q)
    (k : ∀ d G1 H1, Ext G H G1 H1 → PostB K cl W σ G1 H1 (f d) Q → Q1 d H1) : PostB K cl W σ G H o Q1 := by
  cases o with
  | stuck => exact h
  | ok d => exact fun G' H' x => k d G' H' x (PostB.mono x h)
  | exc x => exact h
/-- the end of a pure step: a value that is known here -/
theorem Post.here {d : D} {v : V} {Q : VK} (s : Same G H) (h : Post K cl W σ G H (.ok d) Q) (r : R K cl G v d) : Q v H := h v G H (.refl s) r
theorem PostB.here {b : Bool} {Q : Bool → Hp → Prop} (s : Same G H) (h : PostB K cl W σ G H (.ok b) Q) : Q b H := h G H (.refl s)
theorem Post.guard {c : Bool} {o : Out D} {Q : VK} (h : Post K cl W σ G H (guard c o) Q) : c = true ∧ Post K cl W σ G H o Q := by
  cases c with
  | true => exact ⟨rfl, h⟩
  | false => exact h.elim
theorem PostB.guard {c : Bool} {o : Out Bool} {Q : Bool → Hp → Prop} (h : PostB K cl W σ G H (guard c o) Q) : c = true ∧ PostB K cl W σ G H o Q := by
  cases c with
  | true => exact ⟨rfl, h⟩
  | false => exact h.elim
end

/-! ### judgements: pure expressions, tests, arguments -/
structure DP (X : Cx) (cl : Nat → Addr) (W : WX) (e : Expr) (m : PEnv → Out D) : Prop where
  ex : ∃ t : TE, PE X e t ∧ ∀ (G H : Hp) (σ : Sl) (ρ : PEnv) (Q : VK), Same G H → RS X.K cl G σ ρ → Post X.K cl W σ G H (m ρ) Q → t σ H Q
structure DT (X : Cx) (cl : Nat → Addr) (W : WX) (e : Expr) (m : PEnv → Out Bool) : Prop where
  ex : ∃ t : TT, PT X e t ∧ ∀ (G H : Hp) (σ : Sl) (ρ : PEnv) (Q : Bool → Hp → Prop), Same G H → RS X.K cl G σ ρ → PostB X.K cl W σ G H (m ρ) Q → t σ H Q
structure DW (X : Cx) (cl : Nat → Addr) (W : WX) (e : Expr) (m : PEnv → Out Bool) : Prop where
  ex : ∃ t : TT, PW X e t ∧ ∀ (G H : Hp) (σ : Sl) (ρ : PEnv) (Q : Bool → Hp → Prop), Same G H → RS X.K cl G σ ρ → PostB X.K cl W σ G H (m ρ) Q → t σ H Q
structure DA (X : Cx) (cl : Nat → Addr) (W : WX) (es : List Expr) (m : PEnv → Out (List D)) : Prop where
  ex : ∃ t : TA, PA X es t ∧ ∀ (G H : Hp) (σ : Sl) (ρ : PEnv) (Q : List V → Hp → Prop), Same G H → RS X.K cl G σ ρ → PostL X.K cl W σ G H (m ρ) Q → t σ H Q
/-- at a stands, in H, the object d, its parts read in G -/
inductive Top (K : PySem.W.Frag) (cl : Nat → Addr) (G H : Hp) (a : Addr) : D → Prop
  | lst {xs : List V} {ds : List D} : H a = some (.lst xs) → RL K cl G xs ds → Top K cl G H a (.lst ds)
  | dK {ks : List (Key × V)} {ds : List (Key × D)} : H a = some (.dK ks) → ks.map (·.1) = ds.map (·.1) → RL K cl G (ks.map (·.2)) (ds.map (·.2)) → Top K cl G H a (.dK ds)
  | dT {ks : List (List Key × V)} {ds : List (List Key × D)} : H a = some (.dT ks) → ks.map (·.1) = ds.map (·.1) → RL K cl G (ks.map (·.2)) (ds.map (·.2)) → Top K cl G H a (.dT ds)
  | ins {dx : Addr} {n : Nat} {fs : List (Str × V)} {ds : List (Str × D)} : H a = some (.ins (cl n) dx fs) → fs.map (·.1) = ds.map (·.1) → RL K cl G (fs.map (·.2)) (ds.map (·.2)) → Top K cl G H a (.ins n ds)
/-- G with what H has at p -/
def put (G : Hp) (p : Addr) (H : Hp) : Hp := fun b => if b = p then H b else G b
/-- an expression that makes a new object (G' doesn't know it yet) -/
def PostN (K : PySem.W.Frag) (cl : Nat → Addr) (W : WX) (σ : Sl) (G H : Hp) (o : Out D) (Q : VK) : Prop := match o with
  | .stuck => False
  | .ok d => ∀ p G' H', Ext G H G' H' → H p = none → G' p = none → Top K cl G' H' p d → Q (.ref p) H'
  | .exc x => ∀ c dx G' H', Ext G H G' H' → RX K cl G' H' c dx x → W c dx σ H'
structure DN (X : Cx) (cl : Nat → Addr) (W : WX) (e : Expr) (m : PEnv → Out D) : Prop where
  ex : ∃ t : TE, PE X e t ∧ ∀ (G H : Hp) (σ : Sl) (ρ : PEnv) (Q : VK), Same G H → RS X.K cl G σ ρ → PostN X.K cl W σ G H (m ρ) Q → t σ H Q
section
variable {K : PySem.W.Frag} {cl : Nat → Addr} {W : WX} {σ : Sl} {G H G1 H1 : Hp} {p : Addr}
theorem put_same : put G p H p = H p := by unfold put; rw [if_pos rfl]
theorem put_ne {b : Addr} (h : b ≠ p) : put G p H b = G b := by unfold put; rw [if_neg h]
theorem put_ext (h : G p = none) : Same G (put G p H) := fun b o e => by rw [put_ne (ne_of_none e h)]; exact e
theorem Ext.put (e : Ext G H G1 H1) (hp : H p = none) (hn : G1 p = none) : Ext G H (put G1 p H1) H1 :=
  ⟨e.g.trans (put_ext hn), e.h, fun b o q => by
    by_cases hb : b = p
    · subst hb; rw [put_same] at q; exact q
    · rw [put_ne hb] at q; exact e.s _ _ q, fun b q q' => by
    by_cases hb : b = p
    · subst hb; exact hp
    · rw [put_ne hb] at q'; exact e.f b q q'⟩
theorem Top.read {d : D} (t : Top K cl G H p d) (hn : G p = none) : R K cl (put G p H) (.ref p) d := by
  cases t with
  | lst h r => exact .lst (by rw [put_same]; exact h) (r.mono (put_ext hn))
  | dK h k r => exact .dK (by rw [put_same]; exact h) k (r.mono (put_ext hn))
  | dT h k r => exact .dT (by rw [put_same]; exact h) k (r.mono (put_ext hn))
  | ins h k r => exact .ins (by rw [put_same]; exact h) k (r.mono (put_ext hn))
theorem Top.there {d : D} (t : Top K cl G H p d) : ∃ o, H p = Option.some o := by cases t <;> exact ⟨_, by assumption⟩
theorem Top.mono {d : D} (t : Top K cl G H p d) (g : Same G G1) (h : ∀ o, H p = Option.some o → H1 p = Option.some o) : Top K cl G1 H1 p d := by
  cases t with
  | lst a r => exact .lst (h _ a) (r.mono g)
  | dK a k r => exact .dK (h _ a) k (r.mono g)
  | dT a k r => exact .dT (h _ a) k (r.mono g)
  | ins a k r => exact .ins (h _ a) k (r.mono g)
/-- read where all is known -/
theorem Top.all {d : D} (t : Top K cl G H p d) (s : Same G H) : R K cl H (.ref p) d := by
  cases t with
  | lst h r => exact .lst h (r.mono s)
  | dK h k r => exact .dK h k (r.mono s)
  | dT h k r => exact .dT h k (r.mono s)
  | ins h k r => exact .ins h k (r.mono s)
theorem PostN.mono {o : Out D} {Q : VK} (e : Ext G H G1 H1) (h : PostN K cl W σ G H o Q) : PostN K cl W σ G1 H1 o Q := by
  cases o with
  | stuck => exact h
  | ok d => exact fun p G' H' x hp hn r => h p G' H' (e.trans x) (e.h.free hp) hn r
  | exc x => exact fun c dx G' H' y r => h c dx G' H' (e.trans y) r
theorem Post.ofN {o : Out D} {Q : VK} (h : Post K cl W σ G H o Q) : PostN K cl W σ G H o Q := by
  cases o with
  | stuck => exact h
  | ok d => exact fun p G' H' x hp hn r => h (.ref p) _ H' (x.put hp hn) (r.read hn)
  | exc x => exact h
theorem PostN.bind {o : Out D} {f : D → Out D} {Q Q1 : VK} (h : PostN K cl W σ G H (o.bind f) Q)
    (k : ∀ d v G1 H1, Ext G H G1 H1 → R K cl G1 v d → PostN K cl W σ G1 H1 (f d) Q → Q1 v H1) : Post K cl W σ G H o Q1 := by
  cases o with
  | stuck => exact h
  | ok d => exact fun v G' H' x r => k d v G' H' x r (PostN.mono x h)
  | exc x => exact h
theorem PostN.bindL {o : Out (List D)} {f : List D → Out D} {Q : VK} {Q1 : List V → Hp → Prop} (h : PostN K cl W σ G H (o.bind f) Q)
    (k : ∀ ds vs G1 H1, Ext G H G1 H1 → RL K cl G1 vs ds → PostN K cl W σ G1 H1 (f ds) Q → Q1 vs H1) : PostL K cl W σ G H o Q1 := by
  cases o with
  | stuck => exact h
  | ok d => exact fun v G' H' x r => k d v G' H' x r (PostN.mono x h)
  | exc x => exact h
theorem PostN.bindB {o : Out Bool} {f : Bool → Out D} {Q : VK} {Q1 : Bool → Hp → Prop} (h : PostN K cl W σ G H (o.bind f) Q)
    (k : ∀ d G1 H1, Ext G H G1 H1 → PostN K cl W σ G1 H1 (f d) Q → Q1 d H1) : PostB K cl W σ G H o Q1 := by
  cases o with
  | stuck => exact h
  | ok d => exact fun G' H' x => k d G' H' x (PostN.mono x h)
  | exc x => exact h
theorem PostN.guard {c : Prop} [Decidable c] {o : Out D} {Q : VK} (h : PostN K cl W σ G H (guard (decide c) o) Q) : c ∧ PostN K cl W σ G H o Q := by
  by_cases hc : c
  · rw [decide_eq_true hc] at h; exact ⟨hc, h⟩
  · rw [decide_eq_false hc] at h; exact h.elim
/-- a new list -/
theorem PostN.newLst {xs : List V} {ds : List D} {Q : VK} (s : Same G H) (h : PostN K cl W σ G H (.ok (.lst ds)) Q) (r : RL K cl G xs ds) : ∀ p, H p = none → Q (.ref p) (upd H p (.lst xs)) := fun p hp =>
  h p G (upd H p (.lst xs)) (.lay s hp) hp (s.free hp) (.lst upd_same r)
end
theorem DN.dp {X : Cx} {cl : Nat → Addr} {W : WX} {e : Expr} {m : PEnv → Out D} (h : DN X cl W e m) : DP X cl W e m :=
  let ⟨t, p, k⟩ := h.ex
  ⟨t, p, fun G H σ ρ Q s rs h => k G H σ ρ Q s rs h.ofN⟩

section
variable {X : Cx} {cl : Nat → Addr} {W : WX} {a b c e : Expr} {es : List Expr} {ma mb mc : PEnv → Out D} {mt mu : PEnv → Out Bool} {ml : PEnv → Out (List D)} {pos : Pos}

theorem dp_var (i : Nat) {x : Str} (hN : X.N[i]? = some x := by rfl) (hv : Vis X.env.scope x := by first | exact Or.inl rfl | exact Or.inr (Or.inl rfl) | exact Or.inr (Or.inr rfl)) (hd : (x == ("__debug__" : Str)) = false := by decide)
    (hcd : (x == ("__classdict__" : Str)) = false := by decide) : DP X cl W (.Name x pos) (fun ρ => getV ρ i) :=
  ⟨tVar i, pe_var hN hv hd hcd, fun G H σ ρ Q s r h => by
    cases q : getV ρ i with
    | stuck => rw [q] at h; exact h.elim
    | exc x => exact (getV_exc q).elim
    | ok d =>
      rw [q] at h
      obtain ⟨v, e, rv⟩ := r.at_ i d (getV_ok q)
      exact ⟨v, e, h.here s rv⟩⟩
theorem dp_int {i j} : DP X cl W (.Constant (.int i) j pos) (fun _ => .ok (.int i)) := ⟨_, pe_int, fun _ _ _ _ _ s _ h => h.here s (.int _)⟩
theorem dp_bl {i j} : DP X cl W (.Constant (.bool i) j pos) (fun _ => .ok (.bl i)) := ⟨_, pe_bl, fun _ _ _ _ _ s _ h => h.here s (.bl _)⟩
theorem dp_non {j} : DP X cl W (.Constant .none j pos) (fun _ => .ok .non) := ⟨_, pe_non, fun _ _ _ _ _ s _ h => h.here s .non⟩
theorem dp_str {i j} : DP X cl W (.Constant (.str i) j pos) (fun _ => .ok (.str i)) := ⟨_, pe_str, fun _ _ _ _ _ s _ h => h.here s (.str _)⟩
theorem dp_glob {x : Str} {v : V} {d : D} {u : Value} (hm : X.mg x = some u) (r : RelV v u) (rd : ∀ G, R X.K cl G v d) (hg : Gl X x := by rfl) (hd : (x == ("__debug__" : Str)) = false := by decide) : DP X cl W (.Name x pos) (fun _ => .ok d) :=
  ⟨_, pe_glob hg hm r hd, fun _ _ _ _ _ s _ h => h.here s (rd _)⟩

/-- two expressions, then an operation upon values -/
theorem two {t u : TE} {R2' : R2} {f : D → D → Out D} {G H : Hp} {σ : Sl} {ρ : PEnv} {Q : VK}
    (ha : ∀ (G H : Hp) (σ : Sl) (ρ : PEnv) (Q : VK), Same G H → RS X.K cl G σ ρ → Post X.K cl W σ G H (ma ρ) Q → t σ H Q)
    (hb : ∀ (G H : Hp) (σ : Sl) (ρ : PEnv) (Q : VK), Same G H → RS X.K cl G σ ρ → Post X.K cl W σ G H (mb ρ) Q → u σ H Q)
    (hf : ∀ (G H : Hp) (x y : V) (d e : D), Same G H → R X.K cl G x d → R X.K cl G y e → Post X.K cl W σ G H (f d e) Q → R2' x y H Q)
    (s : Same G H) (r : RS X.K cl G σ ρ) (h : Post X.K cl W σ G H ((ma ρ).bind fun d => (mb ρ).bind fun e => f d e) Q) :
    t σ H fun x H1 => u σ H1 fun y H2 => R2' x y H2 Q := by
  refine ha G H σ ρ _ s r (h.bind fun d v G1 H1 e1 r1 h1 => ?_)
  refine hb G1 H1 σ ρ _ e1.s (r.mono e1.g) (h1.bind fun d' v' G2 H2 e2 r2 h2 => ?_)
  exact hf G2 H2 v v' d d' e2.s (r1.mono e2.g) r2 h2

theorem dp_op {op : Operator} {r : R2} {f : D → D → Out D} (ho : OpR X (binaryOp op) r)
    (hf : ∀ (σ : Sl) (G H : Hp) (x y : V) (d e : D) (Q : VK), Same G H → R X.K cl G x d → R X.K cl G y e → Post X.K cl W σ G H (f d e) Q → r x y H Q)
    (ha : DP X cl W a ma) (hb : DP X cl W b mb) : DP X cl W (.BinOp a op b pos) (fun ρ => (ma ρ).bind fun d => (mb ρ).bind fun e => f d e) := by
  obtain ⟨t, pa, ka⟩ := ha.ex
  obtain ⟨u, pb, kb⟩ := hb.ex
  exact ⟨_, pe_op ho pa pb, fun G H σ ρ Q s rs h => two ka kb (fun G H x y d e s rx ry h => hf σ G H x y d e Q s rx ry h) s rs h⟩
theorem dp_cmp {op : CmpOp} {r : R2} {f : D → D → Out D} (ho : OpR X (compareOp op) r)
    (hf : ∀ (σ : Sl) (G H : Hp) (x y : V) (d e : D) (Q : VK), Same G H → R X.K cl G x d → R X.K cl G y e → Post X.K cl W σ G H (f d e) Q → r x y H Q)
    (hm : behindInMarks op b = false)
    (ha : DP X cl W a ma) (hb : DP X cl W b mb) : DP X cl W (.Compare a [op] [b] pos) (fun ρ => (ma ρ).bind fun d => (mb ρ).bind fun e => f d e) := by
  obtain ⟨t, pa, ka⟩ := ha.ex
  obtain ⟨u, pb, kb⟩ := hb.ex
  exact ⟨_, pe_cmpR ho pa pb hm, fun G H σ ρ Q s rs h => two ka kb (fun G H x y d e s rx ry h => hf σ G H x y d e Q s rx ry h) s rs h⟩
def toB : D → Out Bool
  | .bl b => .ok b
  | _ => .stuck
theorem Post.isB {σ : Sl} {G H : Hp} {o : Out D} {Q : Bool → Hp → Prop} (h : PostB X.K cl W σ G H (o.bind toB) Q) : Post X.K cl W σ G H o (fun x H' => ∃ k, x = .bl k ∧ Q k H') := by
  refine Post.bindB h fun d v G1 H1 e r h1 => ?_
  cases r with
  | bl k => exact ⟨k, rfl, h1.here e.s⟩
  | _ => exact h1.elim
theorem dt_cmp {op : CmpOp} {r : R2} {f : D → D → Out D} (ho : OpR X (compareOp op) r)
    (hf : ∀ (σ : Sl) (G H : Hp) (x y : V) (d e : D) (Q : VK), Same G H → R X.K cl G x d → R X.K cl G y e → Post X.K cl W σ G H (f d e) Q → r x y H Q)
    (hm : behindInMarks op b = false)
    (ha : DP X cl W a ma) (hb : DP X cl W b mb) : DT X cl W (.Compare a [op] [b] pos) (fun ρ => ((ma ρ).bind fun d => (mb ρ).bind fun e => f d e).bind toB) := by
  obtain ⟨t, pa, ka⟩ := ha.ex
  obtain ⟨u, pb, kb⟩ := hb.ex
  exact ⟨_, pt_cmpR ho pa pb hm, fun G H σ ρ Q s rs h => two ka kb (fun G H x y d e s rx ry h => hf σ G H x y d e _ s rx ry h) s rs (Post.isB h)⟩
/-- an expression that is True or False, as a test -/
theorem dt_val (ha : DP X cl W a ma) (he : ∀ whole, isTrue a X.env whole = (do let v ← whole; standAt a.pos; holding [v] (truthy v)) := by intro _; rfl) : DT X cl W a (fun ρ => (ma ρ).bind toB) := by
  obtain ⟨t, pa, ka⟩ := ha.ex
  exact ⟨_, pt_val pa he, fun G H σ ρ Q s rs h => ka G H σ ρ _ s rs (Post.isB h)⟩
theorem dt_not (ha : DT X cl W a mt) : DT X cl W (.UnaryOp .Not a pos) (fun ρ => (mt ρ).bind fun c => .ok (!c)) := by
  obtain ⟨t, pa, ka⟩ := ha.ex
  exact ⟨_, pt_not pa, fun G H σ ρ Q s rs h => ka G H σ ρ _ s rs (h.bindB fun d G1 H1 e h1 => h1.here e.s)⟩
theorem DW.dt (h : DW X cl W e mt) : DT X cl W e mt := let ⟨t, p, k⟩ := h.ex; ⟨t, p.pt, k⟩
theorem dw_and1 (ha : DT X cl W a mt) : DW X cl W (.BoolOp .And [a] pos) mt := let ⟨t, p, k⟩ := ha.ex; ⟨t, pw_and1 p, k⟩
theorem dw_or1 (ha : DT X cl W a mt) : DW X cl W (.BoolOp .Or [a] pos) mt := let ⟨t, p, k⟩ := ha.ex; ⟨t, pw_or1 p, k⟩
theorem dw_and {rest : List Expr} (ha : DT X cl W a mt) (hb : DW X cl W (.BoolOp .And (b :: rest) pos) mu) : DW X cl W (.BoolOp .And (a :: b :: rest) pos) (fun ρ => (mt ρ).bind fun c => if c = true then mu ρ else .ok false) := by
  obtain ⟨t, p, k⟩ := ha.ex
  obtain ⟨u, p2, k2⟩ := hb.ex
  refine ⟨_, pw_and p p2, fun G H σ ρ Q s rs h => k G H σ ρ _ s rs (h.bindB fun c G1 H1 e h1 => ?_)⟩
  cases c with
  | true => exact k2 G1 H1 σ ρ Q e.s (rs.mono e.g) h1
  | false => exact h1.here e.s
theorem dw_or {rest : List Expr} (ha : DT X cl W a mt) (hb : DW X cl W (.BoolOp .Or (b :: rest) pos) mu) : DW X cl W (.BoolOp .Or (a :: b :: rest) pos) (fun ρ => (mt ρ).bind fun c => if c = true then .ok true else mu ρ) := by
  obtain ⟨t, p, k⟩ := ha.ex
  obtain ⟨u, p2, k2⟩ := hb.ex
  refine ⟨_, pw_or p p2, fun G H σ ρ Q s rs h => k G H σ ρ _ s rs (h.bindB fun c G1 H1 e h1 => ?_)⟩
  cases c with
  | false => exact k2 G1 H1 σ ρ Q e.s (rs.mono e.g) h1
  | true => exact h1.here e.s
/-! and, or, not as values: all True or False -/
theorem dp_one {op} (ha : DP X cl W a ma) : DP X cl W (.BoolOp op [a] pos) ma := let ⟨t, p, k⟩ := ha.ex; ⟨t, pe_one p, k⟩
theorem Post.bindTB {σ : Sl} {G H : Hp} {o : Out D} {f : Bool → Out D} {Q : VK} {Q1 : Bool → Hp → Prop} (h : Post X.K cl W σ G H ((o.bind toB).bind f) Q)
    (k : ∀ c G1 H1, Ext G H G1 H1 → Post X.K cl W σ G1 H1 (f c) Q → Q1 c H1) : Post X.K cl W σ G H o (fun x H' => ∃ c, x = .bl c ∧ Q1 c H') := by
  cases o with
  | stuck => exact h
  | exc x => exact h
  | ok d =>
    intro v G' H' e r
    cases r with
    | bl c => exact ⟨c, rfl, k c G' H' e (Post.mono e h)⟩
    | _ => exact h.elim
theorem dp_and {rest : List Expr} (ha : DP X cl W a ma) (hb : DP X cl W (.BoolOp .And (b :: rest) pos) mb) : DP X cl W (.BoolOp .And (a :: b :: rest) pos) (fun ρ => ((ma ρ).bind toB).bind fun c => if c = true then mb ρ else .ok (.bl false)) := by
  obtain ⟨t, p, k⟩ := ha.ex
  obtain ⟨u, p2, k2⟩ := hb.ex
  refine ⟨_, pe_and p p2, fun G H σ ρ Q s rs h => k G H σ ρ _ s rs (h.bindTB fun c G1 H1 e h1 => ?_)⟩
  cases c with
  | true => exact k2 G1 H1 σ ρ Q e.s (rs.mono e.g) h1
  | false => exact h1.here e.s (.bl _)
theorem dp_or {rest : List Expr} (ha : DP X cl W a ma) (hb : DP X cl W (.BoolOp .Or (b :: rest) pos) mb) : DP X cl W (.BoolOp .Or (a :: b :: rest) pos) (fun ρ => ((ma ρ).bind toB).bind fun c => if c = true then .ok (.bl true) else mb ρ) := by
  obtain ⟨t, p, k⟩ := ha.ex
  obtain ⟨u, p2, k2⟩ := hb.ex
  refine ⟨_, pe_or p p2, fun G H σ ρ Q s rs h => k G H σ ρ _ s rs (h.bindTB fun c G1 H1 e h1 => ?_)⟩
  cases c with
  | false => exact k2 G1 H1 σ ρ Q e.s (rs.mono e.g) h1
  | true => exact h1.here e.s (.bl _)
theorem dp_not (ha : DP X cl W a ma) : DP X cl W (.UnaryOp .Not a pos) (fun ρ => ((ma ρ).bind toB).bind fun c => .ok (.bl (!c))) := by
  obtain ⟨t, p, k⟩ := ha.ex
  exact ⟨_, pe_not p, fun G H σ ρ Q s rs h => k G H σ ρ _ s rs (h.bindTB fun c G1 H1 e h1 => h1.here e.s (.bl _))⟩
theorem dp_if (hc : DT X cl W c mt) (ha : DP X cl W a ma) (hb : DP X cl W b mb) : DP X cl W (.IfExp c a b pos) (fun ρ => (mt ρ).bind fun c => if c = true then ma ρ else mb ρ) := by
  obtain ⟨t, p, k⟩ := hc.ex
  obtain ⟨u, p2, k2⟩ := ha.ex
  obtain ⟨v, p3, k3⟩ := hb.ex
  refine ⟨_, pe_ifExp p p2 p3, fun G H σ ρ Q s rs h => k G H σ ρ _ s rs (PostB.bind h fun c G1 H1 e h1 => ?_)⟩
  cases c with
  | true => exact k2 G1 H1 σ ρ Q e.s (rs.mono e.g) h1
  | false => exact k3 G1 H1 σ ρ Q e.s (rs.mono e.g) h1
theorem da_nil : DA X cl W [] (fun _ => .ok []) := ⟨_, pa_nil, fun G H _ _ _ s _ h => h [] G H (.refl s) .nil⟩
theorem da_cons (ha : DP X cl W a ma) (hr : DA X cl W es ml) (hs : starEach (a :: es) X.env = (false, eval a X.env) :: starEach es X.env := by rfl) : DA X cl W (a :: es) (fun ρ => (ma ρ).bind fun d => (ml ρ).bind fun ds => .ok (d :: ds)) := by
  obtain ⟨t, p, k⟩ := ha.ex
  obtain ⟨u, p2, k2⟩ := hr.ex
  refine ⟨_, pa_cons p p2 hs, fun G H σ ρ Q s rs h => k G H σ ρ _ s rs (Post.bindL h fun d v G1 H1 e r h1 => ?_)⟩
  refine k2 G1 H1 σ ρ _ e.s (rs.mono e.g) (PostL.bindL h1 fun ds vs G2 H2 e2 r2 h2 => ?_)
  exact h2 (v :: vs) G2 H2 (.refl e2.s) (.cons (r.mono e2.g) r2)
/-- a call upon arguments, by its rule upon values -/
theorem dp_callR {r : List V → Hp → VK → Prop} {f : List D → Out D} (hc : ∀ t, PA X es t → PE X e (tCB r t))
    (hf : ∀ (σ : Sl) (G H : Hp) (vs : List V) (ds : List D) (Q : VK), Same G H → RL X.K cl G vs ds → Post X.K cl W σ G H (f ds) Q → r vs H Q)
    (ha : DA X cl W es ml) : DP X cl W e (fun ρ => (ml ρ).bind f) := by
  obtain ⟨t, p, k⟩ := ha.ex
  exact ⟨_, hc t p, fun G H σ ρ Q s rs h => k G H σ ρ _ s rs (PostL.bind h fun ds vs G1 H1 e r h1 => hf σ G1 H1 vs ds Q e.s r h1)⟩
end
end Vx
end
section
set_option maxRecDepth 100000
set_option maxHeartbeats 1000000
/-! Vx2: operations upon data. -/
namespace Vx
open PySem PySem.Spec PyProof.Rows L2
open Out (guard)

/-! ### data of the plain kinds -/
mutual
def py : D → PyData
  | .non => .none
  | .bl b => .bool b
  | .int i => .int i
  | .str x => .str x
  | .lst ds => .list (pys ds)
  | .tup ds => .tuple (pys ds)
  | .dK _ | .dT _ | .dF _ | .ins _ _ | .scr _ | .exn _ _ => .dict []
def pys : List D → List PyData
  | [] => []
  | d :: ds => py d :: pys ds
end
mutual
def plain : D → Bool
  | .non | .bl _ | .int _ | .str _ => true
  | .lst ds | .tup ds => plains ds
  | .dK _ | .dT _ | .dF _ | .ins _ _ | .scr _ | .exn _ _ => false
def plains : List D → Bool
  | [] => true
  | d :: ds => plain d && plains ds
end
section
variable {K : PySem.W.Frag} {cl : Nat → Addr} {G G' H H' : Hp}
theorem seq_of {a : Addr} {xs : List V} (s : Same G H) (h : G a = some (.lst xs)) : SqL K H a xs := .of (s _ _ h)
mutual
theorem R.dp (s : Same G H) : ∀ {v : V} {d : D}, R K cl G v d → plain d = true → Dp K H v (py d)
  | _, _, .non, _ => .non
  | _, _, .bl b, _ => .bl b
  | _, _, .int i, _ => .int i
  | _, _, .str x, _ => .str x
  | _, _, .lst h r, p => .lst (seq_of s h) (RL.dp s r p)
  | _, _, .tup h r, p => .tup (.of (s _ _ h)) (RL.dp s r p)
  | _, _, .dK _ _ _, p => by cases p
  | _, _, .dT _ _ _, p => by cases p
  | _, _, .dF _ _ _, p => by cases p
  | _, _, .ins _ _ _, p => by cases p
  | _, _, .scr _, p => by cases p
theorem RL.dp (s : Same G H) : ∀ {vs : List V} {ds : List D}, RL K cl G vs ds → plains ds = true → DpAll K H vs (pys ds)
  | _, _, .nil, _ => .nil
  | _ :: _, d :: ds, .cons a b, p => by
    have p' : plain d = true ∧ plains ds = true := by simpa [plains] using p
    exact .cons (R.dp s a p'.1) (RL.dp s b p'.2)
end
mutual
theorem plain_of_lay : ∀ d : D, (py d).canLay0 = true → plain d = true
  | .non, _ => rfl
  | .bl _, _ => rfl
  | .int _, _ => rfl
  | .str _, _ => rfl
  | .lst ds, h => by
    have h' : PyData.canLayAll0 (pys ds) = true := by simpa [py, PyData.canLay0] using h
    simpa [plain] using plains_of_lay ds h'
  | .tup ds, h => by
    have h' : PyData.canLayAll0 (pys ds) = true := by simpa [py, PyData.canLay0] using h
    simpa [plain] using plains_of_lay ds h'
  | .dK _, h => by simp [py, PyData.canLay0] at h
  | .dT _, h => by simp [py, PyData.canLay0] at h
  | .dF _, h => by simp [py, PyData.canLay0] at h
  | .ins _ _, h => by simp [py, PyData.canLay0] at h
  | .scr _, h => by simp [py, PyData.canLay0] at h
  | .exn _ _, h => by simp [py, PyData.canLay0] at h
theorem plains_of_lay : ∀ ds : List D, PyData.canLayAll0 (pys ds) = true → plains ds = true
  | [], _ => rfl
  | d :: ds, h => by
    have h' : (py d).canLay0 = true ∧ PyData.canLayAll0 (pys ds) = true := by simpa [pys, PyData.canLayAll0] using h
    simp [plains, plain_of_lay d h'.1, plains_of_lay ds h'.2]
end
theorem plain_of_shaped {d : D} (h : SeqAt.shaped (py d) = true) : plain d = true := plain_of_lay d (SeqAt.canLay_of_shaped h)
end

/-! ### operations -/
def int2 (k : Int → Int → Out D) : D → D → Out D
  | .int i, .int j => k i j
  | _, _ => .stuck
def addD : D → D → Out D
  | .int i, .int j => .ok (.int (i + j))
  | .lst xs, .lst ys => guard (decide (xs.length + ys.length ≤ sizeLine)) (.ok (.lst (xs ++ ys)))
  | .str x, .str y => guard (decide (x.length + y.length ≤ sizeLine)) (.ok (.str (x ++ y)))
  | .int i, .bl b => .ok (.int (i + b2i b))
  | _, _ => .stuck
def subD : D → D → Out D := int2 fun i j => .ok (.int (i - j))
def mulD : D → D → Out D
  | .int i, .int j => guard (decide (i.natAbs.log2 + j.natAbs.log2 < 1000000)) (.ok (.int (i * j)))
  | .lst xs, .int k => guard (decide (-(2 ^ 63) ≤ k ∧ k < 2 ^ 63 ∧ xs.length * k.toNat ≤ sizeLine)) (.ok (.lst (List.replicate k.toNat xs).flatten))
  | _, _ => .stuck
def divD : D → D → Out D := int2 fun i j => guard (decide (0 < j ∧ j.natAbs.log2 < 9000)) (.ok (.int (i / j)))
def modD : D → D → Out D := int2 fun i j => guard (decide (0 < j)) (.ok (.int (i % j)))
def powD : D → D → Out D := int2 fun i j => guard (decide (0 ≤ j ∧ (Builtin.Int.intBits i : Int) * j ≤ 2 ^ 27)) (.ok (.int (i ^ j.toNat)))
def shlD : D → D → Out D := int2 fun i j => guard (decide (0 ≤ j ∧ (Builtin.Int.intBits i : Int) + j ≤ 2 ^ 27)) (.ok (.int (i * 2 ^ j.toNat)))
def shrD : D → D → Out D := int2 fun i j => guard (decide (0 ≤ j)) (.ok (.int (i / 2 ^ j.toNat)))
def andD : D → D → Out D := int2 fun i j => .ok (.int (Builtin.bitAnd i j))
def orD : D → D → Out D := int2 fun i j => .ok (.int (Builtin.bitOr i j))
def xorD : D → D → Out D := int2 fun i j => .ok (.int (Builtin.bitXor i j))
def negD : D → Out D
  | .int i => .ok (.int (-i))
  | _ => .stuck
def eqD (d e : D) : Out D := guard (SeqAt.shaped (py d) && SeqAt.shaped (py e)) (.ok (.bl (PyData.eqv (py d) (py e))))
def neD (d e : D) : Out D := guard (SeqAt.shaped (py d) && SeqAt.shaped (py e)) (.ok (.bl (!PyData.eqv (py d) (py e))))
def ltD : D → D → Out D := int2 fun i j => .ok (.bl (decide (i < j)))
def leD : D → D → Out D := int2 fun i j => .ok (.bl (decide (i ≤ j)))
def gtD : D → D → Out D := int2 fun i j => .ok (.bl (decide (j < i)))
def geD : D → D → Out D := int2 fun i j => .ok (.bl (decide (j ≤ i)))
def isNon : D → Bool
  | .non => true
  | _ => false

section
variable {X : Cx} {cl : Nat → Addr} {W : WX} {a b c e : Expr} {es : List Expr} {ma mb mc : PEnv → Out D} {mt mu : PEnv → Out Bool} {ml : PEnv → Out (List D)} {pos : Pos}
variable {σ : Sl} {G H : Hp} {x y : V} {d d' : D} {Q : VK}
theorem R.toInt {i : Int} (r : R X.K cl G x (.int i)) : x = .int i := by cases r; rfl
theorem R.toLst {ds : List D} (r : R X.K cl G x (.lst ds)) : ∃ p xs, x = .ref p ∧ G p = some (.lst xs) ∧ RL X.K cl G xs ds := by cases r with | lst h r => exact ⟨_, _, rfl, h, r⟩
theorem R.toTup {ds : List D} (r : R X.K cl G x (.tup ds)) : ∃ p xs, x = .ref p ∧ SqT X.K G p xs ∧ RL X.K cl G xs ds ∧ G p = some (.tup xs) := by cases r with | tup h r => exact ⟨_, _, rfl, .of h, r, h⟩
theorem R.toScr {ns : List Int} (r : R X.K cl G x (.scr ns)) : ∃ p, x = .ref p ∧ SqL X.K G p (ns.map V.int) := by cases r with | scr h => exact ⟨_, rfl, h⟩
theorem R.toStr {z : Str} (r : R X.K cl G x (.str z)) : x = .str z := by cases r; rfl
theorem R.toBl {z : Bool} (r : R X.K cl G x (.bl z)) : x = .bl z := by cases r; rfl
theorem R.toNon (r : R X.K cl G x .non) : x = .non := by cases r; rfl
/-- a new list, known at once -/
theorem Post.newLst {xs : List V} {ds : List D} (s : Same G H) (h : Post X.K cl W σ G H (.ok (.lst ds)) Q) (r : RL X.K cl G xs ds) : ∀ p, H p = none → Q (.ref p) (upd H p (.lst xs)) := fun p hp =>
  h (.ref p) (upd G p (.lst xs)) (upd H p (.lst xs)) (.new s hp) (.lst upd_same (r.mono (Ext.new (o := .lst xs) s hp).g))
theorem Post.newTup {xs : List V} {ds : List D} (s : Same G H) (h : Post X.K cl W σ G H (.ok (.tup ds)) Q) (r : RL X.K cl G xs ds) : ∀ p, H p = none → Q (.ref p) (upd H p (.tup xs)) := fun p hp =>
  h (.ref p) (upd G p (.tup xs)) (upd H p (.tup xs)) (.new s hp) (.tup upd_same (r.mono (Ext.new (o := .tup xs) s hp).g))

theorem int2_ok {k : Int → Int → Out D} (s : Same G H) (rx : R X.K cl G x d) (ry : R X.K cl G y d') (h : Post X.K cl W σ G H (int2 k d d') Q) :
    ∃ i j, x = .int i ∧ y = .int j ∧ Post X.K cl W σ G H (k i j) Q := by
  cases rx <;> try exact h.elim
  cases ry <;> try exact h.elim
  exact ⟨_, _, rfl, rfl, h⟩
/-- an operator upon data -/
structure BinR (X : Cx) (cl : Nat → Addr) (W : WX) (op : Operator) (f : D → D → Out D) : Prop where
  ex : ∃ r : R2, OpR X (binaryOp op) r ∧ ∀ (σ : Sl) (G H : Hp) (x y : V) (d e : D) (Q : VK), Same G H → R X.K cl G x d → R X.K cl G y e → Post X.K cl W σ G H (f d e) Q → r x y H Q
/-- a comparison upon data -/
structure CmpR (X : Cx) (cl : Nat → Addr) (W : WX) (op : CmpOp) (f : D → D → Out D) : Prop where
  ex : ∃ r : R2, OpR X (compareOp op) r ∧ ∀ (σ : Sl) (G H : Hp) (x y : V) (d e : D) (Q : VK), Same G H → R X.K cl G x d → R X.K cl G y e → Post X.K cl W σ G H (f d e) Q → r x y H Q
theorem dp_bin {op : Operator} {f : D → D → Out D} (h : BinR X cl W op f) (ha : DP X cl W a ma) (hb : DP X cl W b mb) : DP X cl W (.BinOp a op b pos) (fun ρ => (ma ρ).bind fun d => (mb ρ).bind fun e => f d e) :=
  let ⟨_, ho, hf⟩ := h.ex
  dp_op ho hf ha hb
theorem dp_cmpR {op : CmpOp} {f : D → D → Out D} (h : CmpR X cl W op f) (ha : DP X cl W a ma) (hb : DP X cl W b mb) (hm : behindInMarks op b = false := by rfl) : DP X cl W (.Compare a [op] [b] pos) (fun ρ => (ma ρ).bind fun d => (mb ρ).bind fun e => f d e) :=
  let ⟨_, ho, hf⟩ := h.ex
  dp_cmp ho hf hm ha hb
theorem dt_cmpR {op : CmpOp} {f : D → D → Out D} (h : CmpR X cl W op f) (ha : DP X cl W a ma) (hb : DP X cl W b mb) (hm : behindInMarks op b = false := by rfl) : DT X cl W (.Compare a [op] [b] pos) (fun ρ => ((ma ρ).bind fun d => (mb ρ).bind fun e => f d e).bind toB) :=
  let ⟨_, ho, hf⟩ := h.ex
  dt_cmp ho hf hm ha hb
theorem bin_I {op : Operator} {C : Int → Int → Prop} {g : Int → Int → Int} {k : Int → Int → Out D} (ho : OpR X (binaryOp op) (rI C fun i j => .int (g i j)))
    (hk : ∀ (i j : Int) (σ : Sl) (G H : Hp) (Q : VK), Post X.K cl W σ G H (k i j) Q → C i j ∧ Post X.K cl W σ G H (.ok (.int (g i j))) Q) : BinR X cl W op (int2 k) :=
  ⟨_, ho, fun σ G H x y d e Q s rx ry h => by
    obtain ⟨i, j, rfl, rfl, h⟩ := int2_ok s rx ry h
    obtain ⟨c, h⟩ := hk i j σ G H Q h
    exact ⟨i, j, rfl, rfl, c, h.here s (.int _)⟩⟩
theorem bin_I0 {op : Operator} {g : Int → Int → Int} (ho : OpR X (binaryOp op) (rI0 fun i j => .int (g i j))) : BinR X cl W op (int2 fun i j => .ok (.int (g i j))) :=
  ⟨_, ho, fun σ G H x y d e Q s rx ry h => by
    obtain ⟨i, j, rfl, rfl, h⟩ := int2_ok s rx ry h
    exact ⟨i, j, rfl, rfl, h.here s (.int _)⟩⟩
theorem guard_ok {c : Prop} [Decidable c] {o : Out D} (h : Post X.K cl W σ G H (guard (decide c) o) Q) : c ∧ Post X.K cl W σ G H o Q := by
  obtain ⟨h1, h2⟩ := Post.guard h
  exact ⟨of_decide_eq_true h1, h2⟩
theorem bin_sub : BinR X cl W .Sub subD := bin_I0 op_sub
theorem bin_band : BinR X cl W .BitAnd andD := bin_I0 op_and
theorem bin_bor : BinR X cl W .BitOr orD := bin_I0 op_or
theorem bin_bxor : BinR X cl W .BitXor xorD := bin_I0 op_xor
theorem bin_div : BinR X cl W .FloorDiv divD := bin_I op_fdivW fun i j _ _ _ _ h => guard_ok (c := 0 < j ∧ j.natAbs.log2 < 9000) h
theorem bin_mod : BinR X cl W .Mod modD := bin_I op_mod fun _ _ _ _ _ _ h => guard_ok h
theorem bin_shl : BinR X cl W .LShift shlD := bin_I op_shlW fun i j _ _ _ _ h => guard_ok (c := 0 ≤ j ∧ (Builtin.Int.intBits i : Int) + j ≤ 2 ^ 27) h
theorem bin_shr : BinR X cl W .RShift shrD := bin_I op_shr fun _ _ _ _ _ _ h => guard_ok h
theorem op_powX : OpR X (binaryOp .Pow) (rI (fun i j => 0 ≤ j ∧ (Builtin.Int.intBits i : Int) * j ≤ 2 ^ 27) fun i j => .int (i ^ j.toNat)) :=
  opI fun i j t u s Q E c h => PyProof.Rows.pow_int c.1 c.2 h
theorem bin_pow : BinR X cl W .Pow powD := bin_I op_powX fun _ _ _ _ _ _ h => guard_ok h
theorem dp_neg (ha : DP X cl W a ma) : DP X cl W (.UnaryOp .USub a pos) (fun ρ => (ma ρ).bind negD) := by
  obtain ⟨t, p, k⟩ := ha.ex
  refine ⟨_, pe_un un_neg p, fun G H σ ρ Q s rs h => k G H σ ρ _ s rs (h.bind fun d v G1 H1 e r h1 => ?_)⟩
  cases r <;> try exact h1.elim
  exact ⟨_, rfl, h1.here e.s (.int _)⟩
theorem bin_add : BinR X cl W .Add addD :=
  ⟨_, (op_add.or op_cat).or (op_add_str.or op_add_ib), fun σ G H x y d e Q s rx ry h => by
    unfold addD at h
    split at h
    · cases rx; cases ry
      exact .inl (.inl ⟨_, _, rfl, rfl, h.here s (.int _)⟩)
    · obtain ⟨p, xs, rfl, h1, r1⟩ := rx.toLst
      obtain ⟨q, ys, rfl, h2, r2⟩ := ry.toLst
      obtain ⟨c, h⟩ := guard_ok h
      refine .inl (.inr ⟨p, q, xs, ys, rfl, rfl, s _ _ h1, s _ _ h2, by rw [r1.length, r2.length]; exact c, h.newLst s (r1.append r2)⟩)
    · cases rx; cases ry
      obtain ⟨c, h⟩ := guard_ok h
      exact .inr (.inl ⟨_, _, rfl, rfl, c, h.here s (.str _)⟩)
    · cases rx; cases ry
      exact .inr (.inr ⟨_, _, rfl, rfl, h.here s (.int _)⟩)
    · exact h.elim⟩
theorem RL.rep {xs : List V} {ds : List D} (h : RL X.K cl G xs ds) : ∀ k : Nat, RL X.K cl G (List.replicate k xs).flatten (List.replicate k ds).flatten
  | 0 => .nil
  | k + 1 => by
    rw [List.replicate_succ, List.flatten_cons, List.replicate_succ, List.flatten_cons]
    exact h.append (RL.rep h k)
theorem bin_mul : BinR X cl W .Mult mulD :=
  ⟨_, op_mulW.or op_rep, fun σ G H x y d e Q s rx ry h => by
    unfold mulD at h
    split at h
    · cases rx; cases ry
      obtain ⟨c, h⟩ := guard_ok h
      exact .inl ⟨_, _, rfl, rfl, c, h.here s (.int _)⟩
    · obtain ⟨p, xs, rfl, h1, r1⟩ := rx.toLst
      cases ry
      obtain ⟨⟨c1, c2, c3⟩, h⟩ := guard_ok h
      exact .inr ⟨p, _, xs, rfl, rfl, s _ _ h1, c1, c2, by rw [r1.length]; exact c3, h.newLst s (r1.rep _)⟩
    · exact h.elim⟩

/-! comparisons -/
theorem cmp_eq (hu : X.A.units + 64 < cLine) (σ : Sl) (G H : Hp) (x y : V) (d e : D) (Q : VK) (s : Same G H) (rx : R X.K cl G x d) (ry : R X.K cl G y e) (h : Post X.K cl W σ G H (eqD d e) Q) : rEqD X.K x y H Q := by
  obtain ⟨c, h⟩ := Post.guard h
  obtain ⟨c1, c2⟩ := Bool.and_eq_true_iff.mp c
  exact ⟨_, _, rx.dp s (plain_of_shaped c1), ry.dp s (plain_of_shaped c2), c1, c2, h.here s (.bl _)⟩
theorem cmp_ne (hu : X.A.units + 64 < cLine) (σ : Sl) (G H : Hp) (x y : V) (d e : D) (Q : VK) (s : Same G H) (rx : R X.K cl G x d) (ry : R X.K cl G y e) (h : Post X.K cl W σ G H (neD d e) Q) : rNeD X.K x y H Q := by
  obtain ⟨c, h⟩ := Post.guard h
  obtain ⟨c1, c2⟩ := Bool.and_eq_true_iff.mp c
  exact ⟨_, _, rx.dp s (plain_of_shaped c1), ry.dp s (plain_of_shaped c2), c1, c2, h.here s (.bl _)⟩
theorem cr_eq {k : Nat} (hr : Room k X.A) : CmpR X cl W .Eq eqD := ⟨_, op_eqD hr.units, cmp_eq hr.units⟩
theorem cr_ne {k : Nat} (hr : Room k X.A) : CmpR X cl W .NotEq neD := ⟨_, op_neD hr.units, cmp_ne hr.units⟩
theorem cmp_int {g : Int → Int → Bool} (σ : Sl) (G H : Hp) (x y : V) (d e : D) (Q : VK) (s : Same G H) (rx : R X.K cl G x d) (ry : R X.K cl G y e) (h : Post X.K cl W σ G H (int2 (fun i j => .ok (.bl (g i j))) d e) Q) : rI0 (fun i j => .bl (g i j)) x y H Q := by
  obtain ⟨i, j, rfl, rfl, h⟩ := int2_ok s rx ry h
  exact ⟨i, j, rfl, rfl, h.here s (.bl _)⟩
theorem cr_lt : CmpR X cl W .Lt ltD := ⟨_, op_lt, cmp_int⟩
theorem cr_le : CmpR X cl W .LtE leD := ⟨_, op_le, cmp_int⟩
theorem cr_gt : CmpR X cl W .Gt gtD := ⟨_, op_gt, cmp_int⟩
theorem cr_ge : CmpR X cl W .GtE geD := ⟨_, op_ge, cmp_int⟩
/-- a < b < c and its like, of whole numbers -/
theorem dp_chain {op op' : CmpOp} {g g' : Int → Int → Bool} (ho : OpR X (compareOp op) (rI0 fun i j => .bl (g i j))) (ho' : OpR X (compareOp op') (rI0 fun i j => .bl (g' i j)))
    (ha : DP X cl W a ma) (hb : DP X cl W b mb) (hc : DP X cl W c mc) (hm : lastMarks [op, op'] [b, c] = false := by with_unfolding_all rfl) :
    DP X cl W (.Compare a [op, op'] [b, c] pos) (fun ρ => (ma ρ).bind fun d => (mb ρ).bind fun e => int2 (fun i j => if g i j = true then (mc ρ).bind fun f => int2 (fun j k => .ok (.bl (g' j k))) (.int j) f else .ok (.bl false)) d e) := by
  obtain ⟨t, p, k⟩ := ha.ex
  obtain ⟨u, p2, k2⟩ := hb.ex
  obtain ⟨v, p3, k3⟩ := hc.ex
  refine ⟨_, pe_chain ho ho' p p2 p3 hm, fun G H σ ρ Q s rs h => k G H σ ρ _ s rs (h.bind fun d v1 G1 H1 e1 r1 h1 => ?_)⟩
  refine k2 G1 H1 σ ρ _ e1.s (rs.mono e1.g) (h1.bind fun d2 v2 G2 H2 e2 r2 h2 => ?_)
  obtain ⟨i, j, rfl, rfl, h3⟩ := int2_ok e2.s (r1.mono e2.g) r2 h2
  refine ⟨i, j, rfl, rfl, g i j, rfl, ?_⟩
  cases q : g i j with
  | false =>
    rw [q] at h3
    exact h3.here e2.s (.bl _)
  | true =>
    rw [q] at h3
    refine k3 G2 H2 σ ρ _ e2.s ((rs.mono e1.g).mono e2.g) (Post.bind (show Post X.K cl W σ G2 H2 ((mc ρ).bind fun f => int2 (fun j k => .ok (.bl (g' j k))) (.int j) f) Q from h3) fun d3 v3 G3 H3 e3 r3 h4 => ?_)
    obtain ⟨i', j', q1, rfl, h5⟩ := int2_ok (x := .int j) e3.s (.int j) r3 h4
    cases q1
    exact ⟨_, _, rfl, rfl, h5.here e3.s (.bl _)⟩
theorem R.isN (r : R X.K cl G x d) : decide (x = .non) = isNon d := by cases r <;> rfl
theorem dp_isN {j pos'} (ha : DP X cl W a ma) : DP X cl W (.Compare a [.Is] [.Constant .none j pos'] pos) (fun ρ => (ma ρ).bind fun d => .ok (.bl (isNon d))) := by
  obtain ⟨t, p, k⟩ := ha.ex
  refine ⟨_, pe_cmp (pc_isN p), fun G H σ ρ Q s rs h => k G H σ ρ _ s rs (h.bind fun d v G1 H1 e r h1 => ?_)⟩
  rw [R.isN r]
  exact h1.here e.s (.bl _)
theorem dp_notN {j pos'} (ha : DP X cl W a ma) : DP X cl W (.Compare a [.IsNot] [.Constant .none j pos'] pos) (fun ρ => (ma ρ).bind fun d => .ok (.bl (!isNon d))) := by
  obtain ⟨t, p, k⟩ := ha.ex
  refine ⟨_, pe_cmp (pc_notN p), fun G H σ ρ Q s rs h => k G H σ ρ _ s rs (h.bind fun d v G1 H1 e r h1 => ?_)⟩
  rw [R.isN r]
  exact h1.here e.s (.bl _)
theorem dt_isN {j pos'} (ha : DP X cl W a ma) : DT X cl W (.Compare a [.Is] [.Constant .none j pos'] pos) (fun ρ => (ma ρ).bind fun d => .ok (isNon d)) := by
  obtain ⟨t, p, k⟩ := ha.ex
  refine ⟨_, pt_cmp (pc_isN p), fun G H σ ρ Q s rs h => k G H σ ρ _ s rs (Post.bindB h fun d v G1 H1 e r h1 => ?_)⟩
  rw [R.isN r]
  exact ⟨_, rfl, h1.here e.s⟩
theorem dt_notN {j pos'} (ha : DP X cl W a ma) : DT X cl W (.Compare a [.IsNot] [.Constant .none j pos'] pos) (fun ρ => (ma ρ).bind fun d => .ok (!isNon d)) := by
  obtain ⟨t, p, k⟩ := ha.ex
  refine ⟨_, pt_cmp (pc_notN p), fun G H σ ρ Q s rs h => k G H σ ρ _ s rs (Post.bindB h fun d v G1 H1 e r h1 => ?_)⟩
  rw [R.isN r]
  exact ⟨_, rfl, h1.here e.s⟩
end
end Vx
end
section
set_option maxRecDepth 100000
set_option maxHeartbeats 1000000
/-! Vx3: lists, tuples, slices, walks, comprehensions. -/
namespace Vx
open PySem PySem.Spec PyProof.Rows L2
open Out (guard)

theorem wipe_len (σ : Sl) : ∀ vs : List Nat, (L2.wipe σ vs).length = σ.length := L2.wipe_length σ
theorem wipe_in {σ : Sl} : ∀ {vs : List Nat} {j : Nat}, j ∈ vs → j < σ.length → (L2.wipe σ vs)[j]? = some none
  | v :: vs, j, h, hl => by
    show ((L2.wipe σ vs).set v none)[j]? = some none
    by_cases hj : j = v
    · subst hj
      exact List.getElem?_set_self (by rw [wipe_len]; exact hl)
    · rw [List.getElem?_set_ne (Ne.symm hj)]
      exact wipe_in ((List.mem_cons.mp h).resolve_left hj) hl
theorem wipe_eq {σ τ : Sl} {vs : List Nat} (hl : τ.length = σ.length) (h : ∀ j, j ∉ vs → τ[j]? = σ[j]?) : L2.wipe τ vs = L2.wipe σ vs := by
  refine List.ext_getElem? fun j => ?_
  by_cases hj : j ∈ vs
  · by_cases hlt : j < σ.length
    · rw [wipe_in hj hlt, wipe_in hj (by omega)]
    · rw [List.getElem?_eq_none (by rw [wipe_len]; omega), List.getElem?_eq_none (by rw [wipe_len]; omega)]
  · rw [wipe_out hj, wipe_out hj]
    exact h j hj

/-! ### targets -/
/-- slots beyond is stay -/
structure Kept (is : List Nat) (σ σ' : Sl) : Prop where
  len : σ'.length = σ.length
  at_ : ∀ j, j ∉ is → σ'[j]? = σ[j]?
theorem Kept.refl {is : List Nat} {σ : Sl} : Kept is σ σ := ⟨rfl, fun _ _ => rfl⟩
theorem Kept.trans {is js : List Nat} {σ τ υ : Sl} (a : Kept is σ τ) (b : Kept js τ υ) : Kept (is ++ js) σ υ :=
  ⟨b.len.trans a.len, fun j h => (b.at_ j fun z => h (List.mem_append_right _ z)).trans (a.at_ j fun z => h (List.mem_append_left _ z))⟩
theorem Kept.wipe {is vs : List Nat} {σ τ : Sl} (k : Kept is (L2.wipe σ vs) τ) (h : ∀ i ∈ is, i ∈ vs) : L2.wipe τ vs = L2.wipe σ vs :=
  wipe_eq (by rw [k.len, wipe_len]) fun j hj => (k.at_ j fun z => hj (h j z)).trans (wipe_out hj)

section
variable (K : PySem.W.Frag) (cl : Nat → Addr)
def PostG (G : Hp) (is : List Nat) (σ : Sl) (H : Hp) (o : Out PEnv) (Q : Sl → Hp → Prop) : Prop := match o with
  | .ok ρ' => ∀ σ', RS K cl G σ' ρ' → Kept is σ σ' → Q σ' H
  | _ => False
end
structure DG (X : Cx) (cl : Nat → Addr) (tg : Expr) (is : List Nat) (f : D → PEnv → Out PEnv) : Prop where
  ex : ∃ g : TG, PG X tg g ∧ ∀ (G H : Hp) (σ : Sl) (ρ : PEnv) (v : V) (d : D) (Q : Sl → Hp → Prop), Same G H → RS X.K cl G σ ρ → R X.K cl G v d → PostG X.K cl G is σ H (f d ρ) Q → g v σ H Q
structure DGs (X : Cx) (cl : Nat → Addr) (tgs : List Expr) (is : List Nat) (f : List D → PEnv → Out PEnv) : Prop where
  ex : ∃ g : TGs, PGs X tgs g ∧ ∀ (G H : Hp) (σ : Sl) (ρ : PEnv) (vs : List V) (ds : List D) (Q : Sl → Hp → Prop), Same G H → RS X.K cl G σ ρ → RL X.K cl G vs ds → PostG X.K cl G is σ H (f ds ρ) Q → g vs σ H Q
section
variable {X : Cx} {cl : Nat → Addr} {tg : Expr} {tgs : List Expr} {is js : List Nat} {pos : Pos} {f : D → PEnv → Out PEnv} {g : List D → PEnv → Out PEnv}
theorem dg_name (i : Nat) {x : Str} (hN : X.N.Nodup) (hi : X.N[i]? = some x := by rfl) (hx : Loc X.env.scope x := by first | exact Or.inl rfl | exact Or.inr rfl) (hf : X.fn x = true ∨ X.env.scope.names.lookup x = some .local := by first | exact .inl rfl | exact .inr rfl) :
    DG X cl (.Name x pos) [i] (fun d ρ => .ok (ρ.set i (some d))) :=
  ⟨_, pg_name hN hi hx hf, fun G H σ ρ v d Q s rs r h => h _ (rs.set r i) ⟨by simp, fun j hj => List.getElem?_set_ne (by simpa using Ne.symm (by simpa using hj))⟩⟩
theorem dgs_nil : DGs X cl [] [] (fun ds ρ => match ds with | [] => .ok ρ | _ => .stuck) :=
  ⟨_, pgs_nil, fun G H σ ρ vs ds Q s rs r h => by
    cases r with
    | nil => exact ⟨rfl, h σ rs .refl⟩
    | cons _ _ => exact h.elim⟩
theorem dgs_cons (h1 : DG X cl tg is f) (h2 : DGs X cl tgs js g) (hs : (assignEach (tg :: tgs) X.env).map (·.2) = assign tg X.env :: (assignEach tgs X.env).map (·.2) := by rfl) :
    DGs X cl (tg :: tgs) (is ++ js) (fun ds ρ => match ds with | d :: ds => (f d ρ).bind fun ρ => g ds ρ | [] => .stuck) := by
  obtain ⟨t, p, k⟩ := h1.ex
  obtain ⟨u, p2, k2⟩ := h2.ex
  refine ⟨_, pgs_cons p p2 hs, fun G H σ ρ vs ds Q s rs r h => ?_⟩
  cases r with
  | nil => exact h.elim
  | @cons v vs d ds r1 r2 =>
    refine ⟨v, vs, rfl, k G H σ ρ v d _ s rs r1 ?_⟩
    have h' : PostG X.K cl G (is ++ js) σ H ((f d ρ).bind fun ρ => g ds ρ) Q := h
    cases q : f d ρ with
    | stuck => rw [q] at h'; exact h'.elim
    | exc x => rw [q] at h'; exact h'.elim
    | ok ρ1 =>
      rw [q] at h'
      intro σ1 rs1 k1
      refine k2 G H σ1 ρ1 vs ds Q s rs1 r2 ?_
      have h2 : PostG X.K cl G (is ++ js) σ H (g ds ρ1) Q := h'
      cases q2 : g ds ρ1 with
      | stuck => rw [q2] at h2; exact h2.elim
      | exc x => rw [q2] at h2; exact h2.elim
      | ok ρ2 =>
        rw [q2] at h2
        exact fun σ2 rs2 kk => h2 σ2 rs2 (k1.trans kk)
theorem dg_tup {es : List Expr} {k : Nat} {n : Nat} (hc : X.calm = true) (h : DGs X cl es is g)
    (hn : (assignEach es X.env).length = n := by rfl) (hst : (assignEach es X.env).findIdx? (·.1) = none := by rfl) :
    DG X cl (.Tuple es k pos) is (fun d ρ => match d with | .tup ds => guard (decide (ds.length = n)) (g ds ρ) | _ => .stuck) := by
  obtain ⟨t, p, kk⟩ := h.ex
  refine ⟨_, pg_tup hc p hn hst, fun G H σ ρ v d Q s rs r h => ?_⟩
  cases r <;> try exact h.elim
  rename_i a xs ds h1 r1
  by_cases hl : ds.length = n
  · refine ⟨a, xs, rfl, .of (s _ _ h1), by rw [r1.length]; exact hl, kk G H σ ρ xs ds Q s rs r1 ?_⟩
    have h' : PostG X.K cl G is σ H (guard (decide (ds.length = n)) (g ds ρ)) Q := h
    rw [decide_eq_true hl] at h'
    exact h'
  · have h' : PostG X.K cl G is σ H (guard (decide (ds.length = n)) (g ds ρ)) Q := h
    rw [decide_eq_false hl] at h'
    exact h'.elim
theorem dg_unl {es : List Expr} {k : Nat} {n : Nat} (hc : X.calm = true) (h : DGs X cl es is g)
    (hn : (assignEach es X.env).length = n := by rfl) (hst : (assignEach es X.env).findIdx? (·.1) = none := by rfl) :
    DG X cl (.Tuple es k pos) is (fun d ρ => match d with | .lst ds => guard (decide (ds.length = n)) (g ds ρ) | _ => .stuck) := by
  obtain ⟨t, p, kk⟩ := h.ex
  refine ⟨_, pg_unl hc p hn hst, fun G H σ ρ v d Q s rs r h => ?_⟩
  cases r <;> try exact h.elim
  rename_i a xs ds h1 r1
  by_cases hl : ds.length = n
  · refine ⟨a, xs, rfl, seq_of s h1, by rw [r1.length]; exact hl, kk G H σ ρ xs ds Q s rs r1 ?_⟩
    have h' : PostG X.K cl G is σ H (guard (decide (ds.length = n)) (g ds ρ)) Q := h
    rw [decide_eq_true hl] at h'
    exact h'
  · have h' : PostG X.K cl G is σ H (guard (decide (ds.length = n)) (g ds ρ)) Q := h
    rw [decide_eq_false hl] at h'
    exact h'.elim
end

/-! ### walks -/
structure Walk (K : PySem.W.Frag) (cl : Nat → Addr) (J : It) (G : Hp) (ds : List D) : Prop where
  go : ∀ i H, Same G H → i < ds.length → J.go i H
  stop : ∀ i H, Same G H → ds.length ≤ i → J.stop i H
  yld : ∀ i G2 H x H' d, Same G G2 → Same G2 H → ds[i]? = some d → J.yld i H x H' → ∃ G3, Ext G2 H G3 H' ∧ R K cl G3 x d
theorem Walk.mono {K : PySem.W.Frag} {cl : Nat → Addr} {J : It} {G G' : Hp} {ds : List D} (w : Walk K cl J G ds) (e : Same G G') : Walk K cl J G' ds :=
  ⟨fun i H s => w.go i H (e.trans s), fun i H s => w.stop i H (e.trans s), fun i G2 H x H' d e2 => w.yld i G2 H x H' d (e.trans e2)⟩
section
variable {K : PySem.W.Frag} {cl : Nat → Addr} {G H : Hp}
theorem walk_list {a : Addr} {xs : List V} {ds : List D} (h : ∀ H, Same G H → SqL K H a xs) (r : RL K cl G xs ds) : Walk K cl (Itl K a) G ds := by
  refine ⟨fun i H s hi => ?_, fun i H s hi => ⟨xs, h H s, by rw [r.length]; exact hi⟩, fun i G2 H x H' d e s hd y => ?_⟩
  · obtain ⟨v, hv, _⟩ := r.get (List.getElem?_eq_getElem hi)
    exact ⟨xs, v, h H s, hv⟩
  · obtain ⟨rfl, f⟩ := y
    obtain ⟨v, hv, rv⟩ := r.get hd
    have : x = v := Option.some.inj ((f xs (h _ (e.trans s))).symm.trans hv)
    subst this
    exact ⟨G2, .refl s, rv.mono e⟩
theorem walk_tup {a : Addr} {xs : List V} {ds : List D} (h : SqT K G a xs) (r : RL K cl G xs ds) : Walk K cl (Itt K a) G ds := by
  refine ⟨fun i H s hi => ?_, fun i H s hi => ⟨xs, s.sqT h, by rw [r.length]; exact hi⟩, fun i G2 H x H' d e s hd y => ?_⟩
  · obtain ⟨v, hv, _⟩ := r.get (List.getElem?_eq_getElem hi)
    exact ⟨xs, v, s.sqT h, hv⟩
  · obtain ⟨rfl, f⟩ := y
    obtain ⟨v, hv, rv⟩ := r.get hd
    have : x = v := Option.some.inj ((f xs ((e.trans s).sqT h)).symm.trans hv)
    subst this
    exact ⟨G2, .refl s, rv.mono e⟩
def rangeD (lo : Int) (n : Nat) : List D := (List.range n).map fun i => D.int (lo + (i : Nat))
theorem rangeD_length (lo : Int) (n : Nat) : (rangeD lo n).length = n := by unfold rangeD; rw [List.length_map, List.length_range]
theorem rangeD_get {lo : Int} {n i : Nat} (h : i < n) : (rangeD lo n)[i]? = some (.int (lo + (i : Nat))) := by
  unfold rangeD
  rw [List.getElem?_map, List.getElem?_range h]; rfl
theorem walk_range (lo : Int) (n : Nat) : Walk K cl (Itr lo n) G (rangeD lo n) := by
  refine ⟨fun i H s hi => by rw [rangeD_length] at hi; exact hi, fun i H s hi => by rw [rangeD_length] at hi; exact hi, fun i G2 H x H' d e s hd y => ?_⟩
  have hi : i < n := by
    have := (List.getElem?_eq_some_iff.mp hd).1
    rwa [rangeD_length] at this
  rw [rangeD_get hi] at hd
  cases hd
  obtain ⟨rfl, rfl⟩ := y
  exact ⟨G2, .refl s, .int _⟩
def enumD : Nat → List D → List D
  | _, [] => []
  | i, d :: ds => .tup [.int (i : Nat), d] :: enumD (i + 1) ds
theorem enumD_length : ∀ (ds : List D) (i : Nat), (enumD i ds).length = ds.length
  | [], _ => rfl
  | _ :: ds, i => congrArg (· + 1) (enumD_length ds (i + 1))
theorem enumD_get : ∀ {ds : List D} {i j : Nat} {d : D}, (enumD i ds)[j]? = some d → ∃ e, ds[j]? = some e ∧ d = .tup [.int ((i + j : Nat)), e]
  | [], _, _, _, h => by simp [enumD] at h
  | e :: ds, i, 0, d, h => by
    simp [enumD] at h
    exact ⟨e, rfl, h.symm⟩
  | e :: ds, i, j + 1, d, h => by
    obtain ⟨e', h1, h2⟩ := enumD_get (ds := ds) (i := i + 1) (j := j) (d := d) (by simpa [enumD] using h)
    refine ⟨e', by simpa using h1, ?_⟩
    rw [h2, show i + 1 + j = i + (j + 1) by omega]
theorem walk_enum {a : Addr} {xs : List V} {ds : List D} (h : ∀ H, Same G H → SqL K H a xs) (r : RL K cl G xs ds) : Walk K cl (Ite K a) G (enumD 0 ds) := by
  refine ⟨fun i H s hi => ?_, fun i H s hi => ⟨xs, h H s, by rw [r.length]; rw [enumD_length] at hi; exact hi⟩, fun i G2 H x H' d e s hd y => ?_⟩
  · rw [enumD_length] at hi
    obtain ⟨v, hv, _⟩ := r.get (List.getElem?_eq_getElem hi)
    exact ⟨xs, v, h H s, hv⟩
  · obtain ⟨T, x', rfl, hT, rfl, f⟩ := y
    obtain ⟨e', he, rfl⟩ := enumD_get hd
    obtain ⟨v, hv, rv⟩ := r.get he
    have : x' = v := Option.some.inj ((f xs (h _ (e.trans s))).symm.trans hv)
    subst this
    have x2 : Ext G2 H (upd G2 T (.tup [.int (i : Nat), x'])) (upd H T (.tup [.int (i : Nat), x'])) := .new s hT
    refine ⟨_, x2, .tup upd_same (.cons ?_ (.cons ((rv.mono e).mono x2.g) .nil))⟩
    rw [Nat.zero_add]
    exact .int _
def zipD : List D → List D → List D
  | d :: ds, e :: es => .tup [d, e] :: zipD ds es
  | _, _ => []
theorem zipD_length : ∀ (ds es : List D), (zipD ds es).length = min ds.length es.length
  | [], _ => by simp [zipD]
  | _ :: _, [] => by simp [zipD]
  | _ :: ds, _ :: es => by
    show (zipD ds es).length + 1 = _
    rw [zipD_length ds es, List.length_cons, List.length_cons]; omega
theorem zipD_get : ∀ {ds es : List D} {j : Nat} {d : D}, (zipD ds es)[j]? = some d → ∃ a b, ds[j]? = some a ∧ es[j]? = some b ∧ d = .tup [a, b]
  | [], _, _, _, h => by simp [zipD] at h
  | _ :: _, [], _, _, h => by simp [zipD] at h
  | a :: ds, b :: es, 0, d, h => by
    simp [zipD] at h
    exact ⟨a, b, rfl, rfl, h.symm⟩
  | a :: ds, b :: es, j + 1, d, h => by
    obtain ⟨x, y, h1, h2, h3⟩ := zipD_get (ds := ds) (es := es) (j := j) (d := d) (by simpa [zipD] using h)
    exact ⟨x, y, by simpa using h1, by simpa using h2, h3⟩
theorem walk_zip {a b : Addr} {xs ys : List V} {ds es : List D} (h : ∀ H, Same G H → SqL K H a xs) (h' : ∀ H, Same G H → SqL K H b ys) (r : RL K cl G xs ds) (r' : RL K cl G ys es) : Walk K cl (Itz K a b) G (zipD ds es) := by
  refine ⟨fun i H s hi => ?_, fun i H s hi => ⟨xs, ys, h H s, h' H s, ?_⟩, fun i G2 H x H' d e s hd y => ?_⟩
  · rw [zipD_length] at hi
    obtain ⟨v, hv, _⟩ := r.get (List.getElem?_eq_getElem (show i < ds.length by omega))
    obtain ⟨u, hu, _⟩ := r'.get (List.getElem?_eq_getElem (show i < es.length by omega))
    exact ⟨xs, ys, v, u, h H s, h' H s, hv, hu⟩
  · rw [zipD_length] at hi
    rw [r.length, r'.length]; omega
  · obtain ⟨T, x', y', rfl, hT, rfl, f, f'⟩ := y
    obtain ⟨p, q, hp, hq, rfl⟩ := zipD_get hd
    obtain ⟨v, hv, rv⟩ := r.get hp
    obtain ⟨u, hu, ru⟩ := r'.get hq
    have : x' = v := Option.some.inj ((f xs (h _ (e.trans s))).symm.trans hv)
    subst this
    have : y' = u := Option.some.inj ((f' ys (h' _ (e.trans s))).symm.trans hu)
    subst this
    have x2 : Ext G2 H (upd G2 T (.tup [x', y'])) (upd H T (.tup [x', y'])) := .new s hT
    exact ⟨_, x2, .tup upd_same (.cons ((rv.mono e).mono x2.g) (.cons ((ru.mono e).mono x2.g) .nil))⟩
theorem walk_rev {a : Addr} {xs : List V} {ds : List D} (h : ∀ H, Same G H → SqL K H a xs) (r : RL K cl G xs ds) : Walk K cl (Itv K a xs.length) G ds.reverse := by
  have hl := r.length
  refine ⟨fun i H s hi => ?_, fun i H s hi => by rw [List.length_reverse] at hi; show xs.length ≤ i; omega, fun i G2 H x H' d e s hd y => ?_⟩
  · rw [List.length_reverse] at hi
    obtain ⟨v, hv, _⟩ := r.get (List.getElem?_eq_getElem (show ds.length - 1 - i < ds.length by omega))
    exact ⟨by omega, xs, v, h H s, by rw [hl]; exact hv⟩
  · obtain ⟨rfl, f⟩ := y
    have hi : i < ds.length := by
      have := (List.getElem?_eq_some_iff.mp hd).1
      rwa [List.length_reverse] at this
    rw [List.getElem?_reverse hi] at hd
    obtain ⟨v, hv, rv⟩ := r.get hd
    have q := f xs (h _ (e.trans s))
    rw [hl] at q
    have : x = v := Option.some.inj (q.symm.trans hv)
    subst this
    exact ⟨G2, .refl s, rv.mono e⟩
end

section
variable (K : PySem.W.Frag) (cl : Nat → Addr) (W : WX)
def PostI (σ : Sl) (G H : Hp) (o : Out (List D)) (R' : It → Hp → Prop) : Prop := match o with
  | .stuck => False
  | .ok ds => ∀ J G' H', Ext G H G' H' → Walk K cl J G' ds → R' J H'
  | .exc x => ∀ c dx G' H', Ext G H G' H' → RX K cl G' H' c dx x → W c dx σ H'
end
structure DI (X : Cx) (cl : Nat → Addr) (W : WX) (tg iter : Expr) (m : PEnv → Out (List D)) : Prop where
  ex : ∃ wi : TI, PI X tg iter wi ∧ ∀ (G H : Hp) (σ : Sl) (ρ : PEnv) (R' : It → Hp → Prop), Same G H → RS X.K cl G σ ρ → PostI X.K cl W σ G H (m ρ) R' → wi σ H R'
section
variable {K : PySem.W.Frag} {cl : Nat → Addr} {W : WX} {σ : Sl} {G H G1 H1 : Hp}
theorem PostI.mono {o : Out (List D)} {Q : It → Hp → Prop} (e : Ext G H G1 H1) (h : PostI K cl W σ G H o Q) : PostI K cl W σ G1 H1 o Q := by
  cases o with
  | stuck => exact h
  | ok d => exact fun J G' H' x w => h J G' H' (e.trans x) w
  | exc x => exact fun c dx G' H' y r => h c dx G' H' (e.trans y) r
theorem PostI.bind {o : Out D} {f : D → Out (List D)} {Q : It → Hp → Prop} {Q1 : VK} (h : PostI K cl W σ G H (o.bind f) Q)
    (k : ∀ d v G1 H1, Ext G H G1 H1 → R K cl G1 v d → PostI K cl W σ G1 H1 (f d) Q → Q1 v H1) : Post K cl W σ G H o Q1 := by
  cases o with
  | stuck => exact h
  | ok d => exact fun v G' H' x r => k d v G' H' x r (PostI.mono x h)
  | exc x => exact h
theorem PostI.bindL {o : Out (List D)} {f : List D → Out (List D)} {Q : It → Hp → Prop} {Q1 : List V → Hp → Prop} (h : PostI K cl W σ G H (o.bind f) Q)
    (k : ∀ d v G1 H1, Ext G H G1 H1 → RL K cl G1 v d → PostI K cl W σ G1 H1 (f d) Q → Q1 v H1) : PostL K cl W σ G H o Q1 := by
  cases o with
  | stuck => exact h
  | ok d => exact fun v G' H' x r => k d v G' H' x r (PostI.mono x h)
  | exc x => exact h
theorem PostI.here {ds : List D} {J : It} {Q : It → Hp → Prop} (s : Same G H) (h : PostI K cl W σ G H (.ok ds) Q) (w : Walk K cl J G ds) : Q J H := h J G H (.refl s) w
theorem PostI.guard {c : Prop} [Decidable c] {o : Out (List D)} {Q : It → Hp → Prop} (h : PostI K cl W σ G H (guard (decide c) o) Q) : c ∧ PostI K cl W σ G H o Q := by
  by_cases hc : c
  · rw [decide_eq_true hc] at h; exact ⟨hc, h⟩
  · rw [decide_eq_false hc] at h; exact h.elim
end
/-- the items of a list -/
def itemsL : D → Out (List D)
  | .lst ds => .ok ds
  | .scr ns => .ok (ns.map .int)
  | _ => .stuck
def itemsT : D → Out (List D)
  | .tup ds => .ok ds
  | _ => .stuck
theorem itemsL_ok {K : PySem.W.Frag} {cl : Nat → Addr} {W : WX} {σ : Sl} {G : Hp} {v : V} {d : D} (r : R K cl G v d) {P : List D → Prop} (h : itemsL d = .stuck → False) : ∃ a xs ds, v = .ref a ∧ itemsL d = .ok ds ∧ (∀ H, Same G H → SqL K H a xs) ∧ RL K cl G xs ds := by
  cases r <;> try exact (h rfl).elim
  case lst a xs ds h1 r1 => exact ⟨a, xs, ds, rfl, rfl, fun H s => seq_of s h1, r1⟩
  case scr a ns h1 => exact ⟨a, _, _, rfl, rfl, fun H s => s.seq h1, RL.ints ns⟩
section
variable {X : Cx} {cl : Nat → Addr} {W : WX} {a b c e tg : Expr} {es : List Expr} {ma mb mc : PEnv → Out D} {ml : PEnv → Out (List D)} {pos p : Pos}
theorem PostI.items {σ : Sl} {G H : Hp} {d : D} {v : V} {Q : It → Hp → Prop} {f : List D → Out (List D)} (r : R X.K cl G v d) (h : PostI X.K cl W σ G H ((itemsL d).bind f) Q) :
    ∃ a xs ds, v = .ref a ∧ (∀ H, Same G H → SqL X.K H a xs) ∧ RL X.K cl G xs ds ∧ PostI X.K cl W σ G H (f ds) Q := by
  cases r <;> try exact h.elim
  case lst a xs ds h1 r1 => exact ⟨a, xs, ds, rfl, fun H s => seq_of s h1, r1, h⟩
  case scr a ns h1 => exact ⟨a, _, _, rfl, fun H s => s.seq h1, RL.ints ns, h⟩
theorem di_list (ha : DP X cl W a ma) : DI X cl W tg a (fun ρ => (ma ρ).bind fun d => (itemsL d).bind .ok) := by
  obtain ⟨t, pa, k⟩ := ha.ex
  refine ⟨_, pi_list pa, fun G H σ ρ Q s rs h => k G H σ ρ _ s rs (PostI.bind h fun d v G1 H1 e r h1 => ?_)⟩
  obtain ⟨l, xs, ds, rfl, hs, rl, h2⟩ := PostI.items r h1
  exact ⟨l, rfl, ⟨xs, hs H1 e.s⟩, h2.here e.s (walk_list hs rl)⟩
theorem di_tup (ha : DP X cl W a ma) : DI X cl W tg a (fun ρ => (ma ρ).bind itemsT) := by
  obtain ⟨t, pa, k⟩ := ha.ex
  refine ⟨_, pi_tup pa, fun G H σ ρ Q s rs h => k G H σ ρ _ s rs (PostI.bind h fun d v G1 H1 e r h1 => ?_)⟩
  cases r <;> try exact h1.elim
  case tup l xs ds hs rl => exact ⟨l, rfl, ⟨xs, .of (e.s _ _ hs)⟩, PostI.here e.s h1 (walk_tup (.of hs) rl)⟩
def rng1 : List D → Out (List D)
  | [.int j] => guard (decide (-(2 ^ 62) ≤ j ∧ j < 2 ^ 62)) (.ok (rangeD 0 j.toNat))
  | _ => .stuck
def rng2 : List D → Out (List D)
  | [.int i, .int j] => guard (decide (-(2 ^ 62) ≤ i ∧ i < 2 ^ 62 ∧ -(2 ^ 62) ≤ j ∧ j < 2 ^ 62)) (.ok (rangeD i (j - i).toNat))
  | _ => .stuck
theorem di_range1 (hm : X.mg "range" = none) (ha : DA X cl W [a] ml) (hg : Gl X "range" := by rfl) (hs : starEach [a] X.env = [(false, eval a X.env)] := by rfl) :
    DI X cl W tg (.Call (.Name "range" p) [a] [] pos) (fun ρ => (ml ρ).bind rng1) := by
  obtain ⟨t, pa, k⟩ := ha.ex
  refine ⟨_, pi_range1 hg hm pa hs, fun G H σ ρ Q s rs h => k G H σ ρ _ s rs (PostI.bindL h fun ds vs G1 H1 e r h1 => ?_)⟩
  unfold rng1 at h1
  split at h1
  · cases r with
    | cons r1 r2 =>
      cases r1; cases r2
      obtain ⟨⟨c1, c2⟩, h2⟩ := PostI.guard h1
      exact ⟨_, rfl, c1, c2, h2.here e.s (walk_range _ _)⟩
  · exact h1.elim
theorem di_range2 (hm : X.mg "range" = none) (ha : DA X cl W [a, b] ml) (hg : Gl X "range" := by rfl) (hs : starEach [a, b] X.env = [(false, eval a X.env), (false, eval b X.env)] := by rfl) (hs2 : starEach [b] X.env = [(false, eval b X.env)] := by rfl) :
    DI X cl W tg (.Call (.Name "range" p) [a, b] [] pos) (fun ρ => (ml ρ).bind rng2) := by
  obtain ⟨t, pa, k⟩ := ha.ex
  refine ⟨_, pi_range2 hg hm pa hs hs2, fun G H σ ρ Q s rs h => k G H σ ρ _ s rs (PostI.bindL h fun ds vs G1 H1 e r h1 => ?_)⟩
  unfold rng2 at h1
  split at h1
  · cases r with
    | cons r1 r2 =>
      cases r2 with
      | cons r2 r3 =>
        cases r1; cases r2; cases r3
        obtain ⟨c, h2⟩ := PostI.guard h1
        exact ⟨_, _, rfl, c, h2.here e.s (walk_range _ _)⟩
  · exact h1.elim
theorem di_enum {elts : List Expr} {kk : Nat} {tpos : Pos} (hm : X.mg "enumerate" = none) (ha : DA X cl W [a] ml) (hg : Gl X "enumerate" := by rfl) (hs : starEach [a] X.env = [(false, eval a X.env)] := by rfl) :
    DI X cl W (.Tuple elts kk tpos) (.Call (.Name "enumerate" p) [a] [] pos) (fun ρ => (ml ρ).bind fun ds => match ds with | [d] => (itemsL d).bind fun ds => .ok (enumD 0 ds) | _ => .stuck) := by
  obtain ⟨t, pa, k⟩ := ha.ex
  refine ⟨_, pi_enum hg hm pa hs, fun G H σ ρ Q s rs h => k G H σ ρ _ s rs (PostI.bindL h fun ds vs G1 H1 e r h1 => ?_)⟩
  cases r with
  | nil => exact h1.elim
  | cons r1 r2 =>
    cases r2 with
    | cons _ _ => exact h1.elim
    | nil =>
      obtain ⟨l, xs, ds, rfl, hs, rl, h2⟩ := PostI.items r1 h1
      exact ⟨l, xs, rfl, hs H1 e.s, h2.here e.s (walk_enum hs rl)⟩
theorem di_zip {elts : List Expr} {kk : Nat} {tpos : Pos} (hm : X.mg "zip" = none) (ha : DA X cl W [a, b] ml) (hg : Gl X "zip" := by rfl) (hs : starEach [a, b] X.env = (false, eval a X.env) :: starEach [b] X.env := by rfl) (hpl : (backTo pos (starEach [b] X.env)).any (·.1) = false := by rfl) :
    DI X cl W (.Tuple elts kk tpos) (.Call (.Name "zip" p) [a, b] [] pos) (fun ρ => (ml ρ).bind fun ds => match ds with | [d, d'] => (itemsL d).bind fun ds => (itemsL d').bind fun es => .ok (zipD ds es) | _ => .stuck) := by
  obtain ⟨t, pa, k⟩ := ha.ex
  refine ⟨_, pi_zip hg hm pa hs hpl, fun G H σ ρ Q s rs h => k G H σ ρ _ s rs (PostI.bindL h fun ds vs G1 H1 e r h1 => ?_)⟩
  cases r with
  | nil => exact h1.elim
  | cons r1 r2 =>
    cases r2 with
    | nil => exact h1.elim
    | cons r2 r3 =>
      cases r3 with
      | cons _ _ => exact h1.elim
      | nil =>
        obtain ⟨l, xs, ds, rfl, hs, rl, h2⟩ := PostI.items r1 h1
        obtain ⟨l', xs', ds', rfl, hs', rl', h3⟩ := PostI.items r2 h2
        exact ⟨l, l', xs, xs', rfl, hs H1 e.s, hs' H1 e.s, h3.here e.s (walk_zip hs hs' rl rl')⟩
theorem di_rev (hm : X.mg "reversed" = none) (ha : DA X cl W [a] ml) (hg : Gl X "reversed" := by rfl) (hs : starEach [a] X.env = [(false, eval a X.env)] := by rfl) :
    DI X cl W tg (.Call (.Name "reversed" p) [a] [] pos) (fun ρ => (ml ρ).bind fun ds => match ds with | [d] => (itemsL d).bind fun ds => .ok ds.reverse | _ => .stuck) := by
  obtain ⟨t, pa, k⟩ := ha.ex
  refine ⟨_, pi_reversed hg hm pa hs, fun G H σ ρ Q s rs h => k G H σ ρ _ s rs (PostI.bindL h fun ds vs G1 H1 e r h1 => ?_)⟩
  cases r with
  | nil => exact h1.elim
  | cons r1 r2 =>
    cases r2 with
    | cons _ _ => exact h1.elim
    | nil =>
      obtain ⟨l, xs, ds, rfl, hs, rl, h2⟩ := PostI.items r1 h1
      exact ⟨l, xs, rfl, hs H1 e.s, h2.here e.s (walk_rev hs rl)⟩
end

/-! ### displays, subscripts, slices, len -/
section
variable {X : Cx} {cl : Nat → Addr} {W : WX} {a b c e tg : Expr} {es : List Expr} {ma mb mc : PEnv → Out D} {ml : PEnv → Out (List D)} {pos p : Pos}
theorem dn_lst (h : DA X cl W es ml) : DN X cl W (.List es pos) (fun ρ => (ml ρ).bind fun ds => guard (decide (ds.length ≤ sizeLine)) (.ok (.lst ds))) := by
  obtain ⟨t, pa, k⟩ := h.ex
  refine ⟨_, pe_lst pa, fun G H σ ρ Q s rs h => k G H σ ρ _ s rs (PostN.bindL h fun ds vs G1 H1 e r h1 => ?_)⟩
  obtain ⟨c, h2⟩ := PostN.guard h1
  exact ⟨by rw [r.length]; exact c, h2.newLst e.s r⟩
theorem dp_tup {k : Nat} (h : DA X cl W es ml) : DP X cl W (.Tuple es k pos) (fun ρ => (ml ρ).bind fun ds => guard (decide (ds.length ≤ sizeLine)) (.ok (.tup ds))) := by
  obtain ⟨t, pa, k⟩ := h.ex
  refine ⟨_, pe_tup pa, fun G H σ ρ Q s rs h => k G H σ ρ _ s rs (PostL.bind h fun ds vs G1 H1 e r h1 => ?_)⟩
  obtain ⟨c, h2⟩ := guard_ok h1
  exact ⟨by rw [r.length]; exact c, h2.newTup e.s r⟩
def ixD : D → D → Out D
  | .lst ds, .int i => .ofOpt (atI ds i)
  | .tup ds, .int i => .ofOpt (atI ds i)
  | .scr ns, .int i => .ofOpt ((atI ns i).map .int)
  | .str z, .int i => guard (decide (z.length ≤ sizeLine)) (.ofOpt ((atI z.cps.toList i).map fun c => .str ⟨#[c]⟩))
  | _, _ => .stuck
theorem atI_rl {K : PySem.W.Frag} {cl : Nat → Addr} {G : Hp} {xs : List V} {ds : List D} {i : Int} {d : D} (r : RL K cl G xs ds) (h : atI ds i = some d) : ∃ v, atI xs i = some v ∧ R K cl G v d := by
  unfold atI at h ⊢
  rw [r.length]
  cases q : ixN ds.length i with
  | none => rw [q] at h; cases h
  | some j =>
    rw [q] at h
    exact r.get h
theorem atI_map {α β : Type} (f : α → β) (xs : List α) (i : Int) : atI (xs.map f) i = (atI xs i).map f := by
  unfold atI
  rw [List.length_map]
  cases ixN xs.length i with
  | none => rfl
  | some j => show (xs.map f)[j]? = (xs[j]?).map f; rw [List.getElem?_map]
theorem Post.ofOpt {K : PySem.W.Frag} {cl : Nat → Addr} {W : WX} {σ : Sl} {G H : Hp} {o : Option D} {Q : VK} (h : Post K cl W σ G H (.ofOpt o) Q) : ∃ d, o = some d ∧ Post K cl W σ G H (.ok d) Q := by
  cases o with
  | none => exact h.elim
  | some d => exact ⟨d, rfl, h⟩
theorem ix_ok {σ : Sl} {G H : Hp} {x y : V} {d e : D} {Q : VK} (s : Same G H) (rx : R X.K cl G x d) (ry : R X.K cl G y e) (h : Post X.K cl W σ G H (ixD d e) Q) : ((rIxL X.K x y H Q ∨ rIxT X.K x y H Q) ∨ rIxS x y H Q) := by
  unfold ixD at h
  split at h
  · obtain ⟨q, xs, rfl, h1, r1⟩ := rx.toLst
    cases ry
    obtain ⟨d, hd, h2⟩ := Post.ofOpt h
    obtain ⟨v, hv, rv⟩ := atI_rl r1 hd
    exact .inl (.inl ⟨q, xs, _, v, rfl, rfl, seq_of s h1, hv, h2.here s rv⟩)
  · obtain ⟨q, xs, rfl, h1, r1, _⟩ := rx.toTup
    cases ry
    obtain ⟨d, hd, h2⟩ := Post.ofOpt h
    obtain ⟨v, hv, rv⟩ := atI_rl r1 hd
    exact .inl (.inr ⟨q, xs, _, v, rfl, rfl, s.sqT h1, hv, h2.here s rv⟩)
  · obtain ⟨q, rfl, h1⟩ := rx.toScr
    cases ry
    obtain ⟨d, hd, h2⟩ := Post.ofOpt h
    rename_i ns i
    cases q2 : atI ns i with
    | none => rw [q2] at hd; cases hd
    | some n =>
      rw [q2] at hd
      cases hd
      exact .inl (.inl ⟨q, _, _, .int n, rfl, rfl, s.seq h1, by rw [atI_map, q2]; rfl, h2.here s (.int _)⟩)
  · cases rx; cases ry
    obtain ⟨c, h⟩ := guard_ok h
    obtain ⟨d, hd, h2⟩ := Post.ofOpt h
    obtain ⟨n, q2, q3⟩ := Option.map_eq_some_iff.mp hd
    cases q3
    exact .inr ⟨_, _, n, rfl, rfl, c, q2, h2.here s (.str _)⟩
  · exact h.elim
theorem dp_ix (ha : DP X cl W a ma) (hb : DP X cl W b mb) (hs : PlainIx b := by intro _ _; rfl) : DP X cl W (.Subscript a b pos) (fun ρ => (ma ρ).bind fun d => (mb ρ).bind fun e => ixD d e) := by
  obtain ⟨t, pa, ka⟩ := ha.ex
  obtain ⟨u, pb, kb⟩ := hb.ex
  exact ⟨_, pe_ix ((ix_list.or ix_tup).or ix_str) pa pb hs, fun G H σ ρ Q s rs h => two (R2' := fun x y H Q => (rIxL X.K x y H Q ∨ rIxT X.K x y H Q) ∨ rIxS x y H Q) ka kb (fun G H x y d e s rx ry h => ix_ok s rx ry h) s rs h⟩

/-- a part of a slice -/
def PostO (K : PySem.W.Frag) (cl : Nat → Addr) (W : WX) (σ : Sl) (G H : Hp) (o : Out (Option Int)) (Q : Option Int → Hp → Prop) : Prop := match o with
  | .stuck => False
  | .ok d => ∀ G' H', Ext G H G' H' → Q d H'
  | .exc x => ∀ c dx G' H', Ext G H G' H' → RX K cl G' H' c dx x → W c dx σ H'
structure DO (X : Cx) (cl : Nat → Addr) (W : WX) (e : Option Expr) (m : PEnv → Out (Option Int)) : Prop where
  ex : ∃ t : TO, PO X e t ∧ ∀ (G H : Hp) (σ : Sl) (ρ : PEnv) (Q : Option Int → Hp → Prop), Same G H → RS X.K cl G σ ρ → PostO X.K cl W σ G H (m ρ) Q → t σ H Q
theorem PostO.bindN {σ : Sl} {G H : Hp} {o : Out (Option Int)} {f : Option Int → Out D} {Q : VK} {Q1 : Option Int → Hp → Prop} (h : PostN X.K cl W σ G H (o.bind f) Q)
    (k : ∀ d G1 H1, Ext G H G1 H1 → PostN X.K cl W σ G1 H1 (f d) Q → Q1 d H1) : PostO X.K cl W σ G H o Q1 := by
  cases o with
  | stuck => exact h
  | ok d => exact fun G' H' x => k d G' H' x (PostN.mono x h)
  | exc x => exact h
theorem PostO.bindP {σ : Sl} {G H : Hp} {o : Out (Option Int)} {f : Option Int → Out D} {Q : VK} {Q1 : Option Int → Hp → Prop} (h : Post X.K cl W σ G H (o.bind f) Q)
    (k : ∀ d G1 H1, Ext G H G1 H1 → Post X.K cl W σ G1 H1 (f d) Q → Q1 d H1) : PostO X.K cl W σ G H o Q1 := by
  cases o with
  | stuck => exact h
  | ok d => exact fun G' H' x => k d G' H' x (Post.mono x h)
  | exc x => exact h
theorem do_none : DO X cl W none (fun _ => .ok none) := ⟨_, po_none, fun G H σ ρ Q s rs h => h G H (.refl s)⟩
def toI : D → Out (Option Int)
  | .int i => .ok (some i)
  | _ => .stuck
theorem do_some (ha : DP X cl W a ma) : DO X cl W (some a) (fun ρ => (ma ρ).bind toI) := by
  obtain ⟨t, pa, k⟩ := ha.ex
  refine ⟨_, po_some pa, fun G H σ ρ Q s rs h => k G H σ ρ _ s rs ?_⟩
  have h' : PostO X.K cl W σ G H ((ma ρ).bind toI) Q := h
  cases q : ma ρ with
  | stuck => rw [q] at h'; exact h'
  | exc x => rw [q] at h'; exact h'
  | ok d =>
    rw [q] at h'
    intro v G1 H1 e r
    cases r <;> try exact h'.elim
    exact ⟨_, rfl, h' G1 H1 e⟩
def cutD (ds : List D) (lo hi : Option Int) : List D := (ds.drop (HT.sIx ds.length 0 lo)).take (HT.sIx ds.length ds.length hi - HT.sIx ds.length 0 lo)
def slD (d : D) (lo hi : Option Int) : Out D := (itemsL d).bind fun ds => .ok (.lst (cutD ds lo hi))
theorem RL.cut {K : PySem.W.Frag} {cl : Nat → Addr} {G : Hp} {xs : List V} {ds : List D} (r : RL K cl G xs ds) (lo hi : Option Int) : RL K cl G (cutV xs lo hi) (cutD ds lo hi) := by
  unfold cutV cutD
  rw [r.length]
  exact (r.drop _).take _
theorem PostN.items {σ : Sl} {G H : Hp} {d : D} {v : V} {Q : VK} {f : List D → Out D} (r : R X.K cl G v d) (h : PostN X.K cl W σ G H ((itemsL d).bind f) Q) :
    ∃ a xs ds, v = .ref a ∧ (∀ H, Same G H → SqL X.K H a xs) ∧ RL X.K cl G xs ds ∧ PostN X.K cl W σ G H (f ds) Q := by
  cases r <;> try exact h.elim
  case lst a xs ds h1 r1 => exact ⟨a, xs, ds, rfl, fun H s => seq_of s h1, r1, h⟩
  case scr a ns h1 => exact ⟨a, _, _, rfl, fun H s => s.seq h1, RL.ints ns, h⟩
theorem Post.items {σ : Sl} {G H : Hp} {d : D} {v : V} {Q : VK} {f : List D → Out D} (r : R X.K cl G v d) (h : Post X.K cl W σ G H ((itemsL d).bind f) Q) :
    ∃ a xs ds, v = .ref a ∧ (∀ H, Same G H → SqL X.K H a xs) ∧ RL X.K cl G xs ds ∧ Post X.K cl W σ G H (f ds) Q := by
  cases r <;> try exact h.elim
  case lst a xs ds h1 r1 => exact ⟨a, xs, ds, rfl, fun H s => seq_of s h1, r1, h⟩
  case scr a ns h1 => exact ⟨a, _, _, rfl, fun H s => s.seq h1, RL.ints ns, h⟩
theorem dn_slice {lo hi : Option Expr} {p2 : Pos} {ml' mh : PEnv → Out (Option Int)} (ha : DP X cl W a ma) (hl : DO X cl W lo ml') (hh : DO X cl W hi mh) :
    DN X cl W (.Subscript a (.Slice lo hi none p2) pos) (fun ρ => (ma ρ).bind fun d => (ml' ρ).bind fun l => (mh ρ).bind fun h => slD d l h) := by
  obtain ⟨t, pa, ka⟩ := ha.ex
  obtain ⟨u, pb, kb⟩ := hl.ex
  obtain ⟨v, pc, kc⟩ := hh.ex
  refine ⟨_, pe_slice sl_list pa pb pc, fun G H σ ρ Q s rs h => ka G H σ ρ _ s rs (PostN.bind h fun d x G1 H1 e1 r1 h1 => ?_)⟩
  refine kb G1 H1 σ ρ _ e1.s (rs.mono e1.g) (PostO.bindN h1 fun dl G2 H2 e2 h2 => ?_)
  refine kc G2 H2 σ ρ _ e2.s ((rs.mono e1.g).mono e2.g) (PostO.bindN h2 fun dh G3 H3 e3 h3 => ?_)
  obtain ⟨l, xs, ds, rfl, hs, rl, h4⟩ := PostN.items ((r1.mono e2.g).mono e3.g) h3
  exact ⟨l, xs, rfl, hs H3 e3.s, h4.newLst e3.s (rl.cut _ _)⟩
theorem dn_revL {k : Nat} {p1 p2 p3 : Pos} (ha : DP X cl W a ma) : DN X cl W (.Subscript a (.Slice none none (some (.UnaryOp .USub (.Constant (.int 1) k p1) p2)) p3) pos) (fun ρ => (ma ρ).bind fun d => (itemsL d).bind fun ds => .ok (.lst ds.reverse)) := by
  obtain ⟨t, pa, ka⟩ := ha.ex
  refine ⟨_, pe_revL pa, fun G H σ ρ Q s rs h => ka G H σ ρ _ s rs (PostN.bind h fun d x G1 H1 e1 r1 h1 => ?_)⟩
  obtain ⟨l, xs, ds, rfl, hs, rl, h4⟩ := PostN.items r1 h1
  exact ⟨l, xs, rfl, hs H1 e1.s, h4.newLst e1.s rl.reverse⟩
/-- a tuple's part -/
def slT (d : D) (lo hi : Option Int) : Out D := (itemsT d).bind fun ds => guard (decide (¬ (HT.sIx ds.length 0 lo = 0 ∧ HT.sIx ds.length ds.length hi = ds.length))) (.ok (.tup (cutD ds lo hi)))
theorem dp_sliceT {lo hi : Option Expr} {p2 : Pos} {ml' mh : PEnv → Out (Option Int)} (ha : DP X cl W a ma) (hl : DO X cl W lo ml') (hh : DO X cl W hi mh) :
    DP X cl W (.Subscript a (.Slice lo hi none p2) pos) (fun ρ => (ma ρ).bind fun d => (ml' ρ).bind fun l => (mh ρ).bind fun h => slT d l h) := by
  obtain ⟨t, pa, ka⟩ := ha.ex
  obtain ⟨u, pb, kb⟩ := hl.ex
  obtain ⟨v, pc, kc⟩ := hh.ex
  refine ⟨_, pe_slice sl_tup pa pb pc, fun G H σ ρ Q s rs h => ka G H σ ρ _ s rs (Post.bind h fun d x G1 H1 e1 r1 h1 => ?_)⟩
  refine kb G1 H1 σ ρ _ e1.s (rs.mono e1.g) (PostO.bindP h1 fun dl G2 H2 e2 h2 => ?_)
  refine kc G2 H2 σ ρ _ e2.s ((rs.mono e1.g).mono e2.g) (PostO.bindP h2 fun dh G3 H3 e3 h3 => ?_)
  have r3 := (r1.mono e2.g).mono e3.g
  cases r3 <;> try exact h3.elim
  rename_i l xs ds hs rl
  obtain ⟨c, h4⟩ := guard_ok (o := .ok (.tup (cutD ds dl dh))) h3
  rw [← rl.length] at c
  exact ⟨l, xs, rfl, .of (e3.s _ _ hs), c, h4.newTup e3.s (rl.cut _ _)⟩
/-- len -/
def lenD : D → Out D
  | .lst ds => .ok (.int ds.length)
  | .tup ds => .ok (.int ds.length)
  | .scr ns => .ok (.int ns.length)
  | .str z => guard (decide (z.length ≤ sizeLine)) (.ok (.int z.length))
  | _ => .stuck
def one1 (f : D → Out D) : List D → Out D
  | [d] => f d
  | _ => .stuck
def two2 (f : D → D → Out D) : List D → Out D
  | [d, e] => f d e
  | _ => .stuck
theorem one1_ok {σ : Sl} {G H : Hp} {f : D → Out D} {vs : List V} {ds : List D} {Q : VK} (r : RL X.K cl G vs ds) (h : Post X.K cl W σ G H (one1 f ds) Q) : ∃ v d, vs = [v] ∧ ds = [d] ∧ R X.K cl G v d ∧ Post X.K cl W σ G H (f d) Q := by
  cases r with
  | nil => exact h.elim
  | cons r1 r2 =>
    cases r2 with
    | nil => exact ⟨_, _, rfl, rfl, r1, h⟩
    | cons _ _ => exact h.elim
theorem two2_ok {σ : Sl} {G H : Hp} {f : D → D → Out D} {vs : List V} {ds : List D} {Q : VK} (r : RL X.K cl G vs ds) (h : Post X.K cl W σ G H (two2 f ds) Q) :
    ∃ v u d e, vs = [v, u] ∧ ds = [d, e] ∧ R X.K cl G v d ∧ R X.K cl G u e ∧ Post X.K cl W σ G H (f d e) Q := by
  cases r with
  | nil => exact h.elim
  | cons r1 r2 =>
    cases r2 with
    | nil => exact h.elim
    | cons r2 r3 =>
      cases r3 with
      | nil => exact ⟨_, _, _, _, rfl, rfl, r1, r2, h⟩
      | cons _ _ => exact h.elim
theorem one1N_ok {σ : Sl} {G H : Hp} {f : D → Out D} {vs : List V} {ds : List D} {Q : VK} (r : RL X.K cl G vs ds) (h : PostN X.K cl W σ G H (one1 f ds) Q) : ∃ v d, vs = [v] ∧ ds = [d] ∧ R X.K cl G v d ∧ PostN X.K cl W σ G H (f d) Q := by
  cases r with
  | nil => exact h.elim
  | cons r1 r2 =>
    cases r2 with
    | nil => exact ⟨_, _, rfl, rfl, r1, h⟩
    | cons _ _ => exact h.elim
/-- a built-in function upon values -/
theorem dp_callB {id : String} {r : List V → Hp → VK → Prop} {f : List D → Out D} {x : Str} (hc : CallR X (.builtin id) r)
    (hf : ∀ (σ : Sl) (G H : Hp) (vs : List V) (ds : List D) (Q : VK), Same G H → RL X.K cl G vs ds → Post X.K cl W σ G H (f ds) Q → r vs H Q)
    (hm : X.mg x = none) (hv : bootBuiltins x = some (.builtin id)) (ha : DA X cl W (e :: es) ml) (hg : Gl X x := by rfl) (hn : x ≠ "__name__" := by decide) (hdb : (x == ("__debug__" : Str)) = false := by decide)
    (he : starEach (e :: es) X.env = (false, eval e X.env) :: starEach es X.env := by rfl) (hpl : (backTo pos (starEach es X.env)).any (·.1) = false := by rfl) :
    DP X cl W (.Call (.Name x p) (e :: es) [] pos) (fun ρ => (ml ρ).bind f) := dp_callR (fun t pa => pe_callB hc hg hm hv pa hn hdb he hpl) hf ha
theorem dp_callTy {id : String} {r : List V → Hp → VK → Prop} {f : List D → Out D} {x : Str} (hc : CallR X (.type id) r)
    (hf : ∀ (σ : Sl) (G H : Hp) (vs : List V) (ds : List D) (Q : VK), Same G H → RL X.K cl G vs ds → Post X.K cl W σ G H (f ds) Q → r vs H Q)
    (hm : X.mg x = none) (hv : bootBuiltins x = some (.type id)) (ha : DA X cl W (e :: es) ml) (hg : Gl X x := by rfl) (hn : x ≠ "__name__" := by decide) (hdb : (x == ("__debug__" : Str)) = false := by decide)
    (he : starEach (e :: es) X.env = (false, eval e X.env) :: starEach es X.env := by rfl) (hpl : (backTo pos (starEach es X.env)).any (·.1) = false := by rfl) :
    DP X cl W (.Call (.Name x p) (e :: es) [] pos) (fun ρ => (ml ρ).bind f) := dp_callR (fun t pa => pe_callTy hc hg hm hv pa hn hdb he hpl) hf ha
theorem dn_callR {r : List V → Hp → VK → Prop} {f : List D → Out D} (hc : ∀ t, PA X es t → PE X e (tCB r t))
    (hf : ∀ (σ : Sl) (G H : Hp) (vs : List V) (ds : List D) (Q : VK), Same G H → RL X.K cl G vs ds → PostN X.K cl W σ G H (f ds) Q → r vs H Q)
    (ha : DA X cl W es ml) : DN X cl W e (fun ρ => (ml ρ).bind f) := by
  obtain ⟨t, p, k⟩ := ha.ex
  exact ⟨_, hc t p, fun G H σ ρ Q s rs h => k G H σ ρ _ s rs (PostN.bindL h fun ds vs G1 H1 e r h1 => hf σ G1 H1 vs ds Q e.s r h1)⟩
theorem dp_len (hm : X.mg "len" = none) (ha : DA X cl W [a] ml) (hg : Gl X "len" := by rfl) (he : starEach [a] X.env = (false, eval a X.env) :: starEach [] X.env := by rfl) :
    DP X cl W (.Call (.Name "len" p) [a] [] pos) (fun ρ => (ml ρ).bind (one1 lenD)) :=
  dp_callB call_len (fun σ G H vs ds Q s r h => by
    obtain ⟨v, d, rfl, rfl, rv, h⟩ := one1_ok r h
    unfold lenD at h
    split at h
    · obtain ⟨q, xs, rfl, h1, r1⟩ := rv.toLst
      exact ⟨_, _, rfl, .inl ⟨xs, seq_of s h1, r1.length.symm⟩, h.here s (.int _)⟩
    · obtain ⟨q, xs, rfl, h1, r1, h0⟩ := rv.toTup
      exact ⟨_, _, rfl, .inr ⟨xs, s.sqT h1, r1.length.symm⟩, h.here s (.int _)⟩
    · obtain ⟨q, rfl, h1⟩ := rv.toScr
      exact ⟨_, _, rfl, .inl ⟨_, s.seq h1, by rw [List.length_map]⟩, h.here s (.int _)⟩
    · cases rv
      obtain ⟨c, h⟩ := guard_ok h
      exact ⟨_, _, rfl, ⟨c, rfl⟩, h.here s (.int _)⟩
    · exact h.elim) hm boot_len ha hg (by decide) (by decide) he
/-- list(x) -/
def seqD : D → Out (List D)
  | .lst ds => .ok ds
  | .tup ds => .ok ds
  | .scr ns => .ok (ns.map .int)
  | _ => .stuck
theorem dn_list (hm : X.mg "list" = none) (ha : DA X cl W [a] ml) (hg : Gl X "list" := by rfl) (he : starEach [a] X.env = (false, eval a X.env) :: starEach [] X.env := by rfl) :
    DN X cl W (.Call (.Name "list" p) [a] [] pos) (fun ρ => (ml ρ).bind (one1 fun d => (seqD d).bind fun ds => .ok (.lst ds))) :=
  dn_callR (fun t pa => pe_callTy call_list_of hg hm (by decide +kernel) pa (by decide) (by decide) he) (fun σ G H vs ds Q s r h => by
    obtain ⟨v, d, rfl, rfl, rv, h⟩ := one1N_ok r h
    cases d <;> try exact h.elim
    case lst ds => obtain ⟨q, xs, rfl, h1, r1⟩ := rv.toLst; exact ⟨q, xs, rfl, .inl (seq_of s h1), PostN.newLst s h r1⟩
    case tup ds => obtain ⟨q, xs, rfl, h1, r1, h0⟩ := rv.toTup; exact ⟨q, xs, rfl, .inr (s.sqT h1), PostN.newLst s h r1⟩
    case scr ns => obtain ⟨q, rfl, h1⟩ := rv.toScr; exact ⟨q, _, rfl, .inl (s.seq h1), PostN.newLst s h (RL.ints _)⟩) ha
theorem dp_tupleOf (hm : X.mg "tuple" = none) (ha : DA X cl W [a] ml) (hg : Gl X "tuple" := by rfl) (he : starEach [a] X.env = (false, eval a X.env) :: starEach [] X.env := by rfl) :
    DP X cl W (.Call (.Name "tuple" p) [a] [] pos) (fun ρ => (ml ρ).bind (one1 fun d => (seqD d).bind fun ds => .ok (.tup ds))) :=
  dp_callTy call_tuple_of (fun σ G H vs ds Q s r h => by
    obtain ⟨v, d, rfl, rfl, rv, h⟩ := one1_ok r h
    cases d <;> try exact h.elim
    case lst ds => obtain ⟨q, xs, rfl, h1, r1⟩ := rv.toLst; exact ⟨q, xs, rfl, .inl ⟨seq_of s h1, Post.newTup s h r1⟩⟩
    case tup ds => obtain ⟨q, xs, rfl, h1, r1, h0⟩ := rv.toTup; exact ⟨q, xs, rfl, .inr ⟨s.sqT h1, h.here s (.tup h0 r1)⟩⟩
    case scr ns => obtain ⟨q, rfl, h1⟩ := rv.toScr; exact ⟨q, _, rfl, .inl ⟨s.seq h1, Post.newTup s h (RL.ints _)⟩⟩) hm (by decide +kernel) ha hg (by decide) (by decide) he
end
end Vx
end
section
set_option maxRecDepth 100000
set_option maxHeartbeats 1000000
/-! Vx4: comprehensions. -/
namespace Vx
open PySem PySem.Spec PyProof.Rows L2
open Out (guard)

/-- what is asked so that a pure expression ends in Q, from what is known of the slots -/
def wpP (K : PySem.W.Frag) (cl : Nat → Addr) (W : WX) (m : PEnv → Out D) : TE := fun σ H Q => ∃ G ρ, Same G H ∧ RS K cl G σ ρ ∧ Post K cl W σ G H (m ρ) Q
def wpT (K : PySem.W.Frag) (cl : Nat → Addr) (W : WX) (m : PEnv → Out Bool) : TT := fun σ H Q => ∃ G ρ, Same G H ∧ RS K cl G σ ρ ∧ PostB K cl W σ G H (m ρ) Q
def wpG (K : PySem.W.Frag) (cl : Nat → Addr) (is : List Nat) (f : D → PEnv → Out PEnv) : TG := fun v σ H Q => ∃ G ρ d, Same G H ∧ RS K cl G σ ρ ∧ R K cl G v d ∧ PostG K cl G is σ H (f d ρ) Q
section
variable {X : Cx} {cl : Nat → Addr} {W : WX} {e tg : Expr} {m : PEnv → Out D} {mt : PEnv → Out Bool} {is : List Nat} {f : D → PEnv → Out PEnv}
theorem DP.pe (h : DP X cl W e m) : PE X e (wpP X.K cl W m) := by
  obtain ⟨t, p, k⟩ := h.ex
  exact ⟨fun pins s σ H Q I ⟨G, ρ, sm, rs, po⟩ => p.run pins s σ H Q I (k G H σ ρ Q sm rs po)⟩
theorem DT.pt (h : DT X cl W e mt) : PT X e (wpT X.K cl W mt) := by
  obtain ⟨t, p, k⟩ := h.ex
  exact ⟨fun pins s σ H Q I ⟨G, ρ, sm, rs, po⟩ => p.run pins s σ H Q I (k G H σ ρ Q sm rs po)⟩
theorem DG.pg (h : DG X cl tg is f) : PG X tg (wpG X.K cl is f) := by
  obtain ⟨t, p, k⟩ := h.ex
  exact ⟨fun pins s σ H v u Q I rv ⟨G, ρ, d, sm, rs, r, po⟩ => p.run pins s σ H v u Q I rv (k G H σ ρ v d Q sm rs r po)⟩
end
/-- no exception is wished for -/
abbrev W0 : WX := fun _ _ _ _ => False
/-- the tests of a comprehension -/
structure DTs (X : Cx) (cl : Nat → Addr) (ifs : List Expr) (m : PEnv → Out Bool) : Prop where
  ex : PTs X ifs (wpT X.K cl W0 m)
section
variable {X : Cx} {cl : Nat → Addr} {W : WX} {c : Expr} {mt : PEnv → Out Bool}
theorem dts_nil : DTs X cl [] (fun _ => .ok true) := ⟨⟨fun pins s σ H Q I ⟨G, ρ, sm, rs, po⟩ => pts_nil.run pins s σ H Q I (po G H (.refl sm))⟩⟩
theorem dts_one (h : DT X cl W0 c mt) : DTs X cl [c] mt := ⟨pts_one h.pt⟩
end

/-- a comprehension's list: each item's, from the left -/
def compL (f : D → Out (Option D)) : List D → Out (List D)
  | [] => .ok []
  | d :: ds => match f d with
    | .ok o => (compL f ds).bind fun r => .ok (o.toList ++ r)
    | _ => .stuck
/-- one item's part -/
def compF (fg : D → PEnv → Out PEnv) (mt : PEnv → Out Bool) (me : PEnv → Out D) (ρ : PEnv) (d : D) : Out (Option D) :=
  (fg d ρ).bind fun ρ2 => (mt ρ2).bind fun c => if c = true then (me ρ2).bind fun e => .ok (some e) else .ok none
theorem compL_ok {f : D → Out (Option D)} : ∀ {ds es : List D}, compL f ds = .ok es → ∀ d ∈ ds, ∃ o, f d = .ok o
  | d :: ds, es, h, x, hx => by
    unfold compL at h
    split at h
    · rename_i o q
      cases q2 : compL f ds with
      | stuck => rw [q2] at h; cases h
      | exc x => rw [q2] at h; cases h
      | ok r =>
        rcases List.mem_cons.mp hx with rfl | hx
        · exact ⟨o, q⟩
        · exact compL_ok q2 x hx
    · cases h
theorem compL_len {f : D → Out (Option D)} : ∀ {ds es : List D}, compL f ds = .ok es → es.length ≤ ds.length
  | [], es, h => by cases h; exact Nat.le_refl _
  | d :: ds, es, h => by
    unfold compL at h
    split at h
    · rename_i o q
      cases q2 : compL f ds with
      | stuck => rw [q2] at h; cases h
      | exc x => rw [q2] at h; cases h
      | ok r =>
        rw [q2] at h
        have := compL_len q2
        cases h
        cases o <;> simp <;> omega
    · cases h
def compD (f : D → Out (Option D)) (ds : List D) : Out D := guard (decide (ds.length ≤ sizeLine)) ((compL f ds).bind fun es => .ok (.lst es))

/-- between two turns of a comprehension: i items are taken, acc stands at D0, ea is what it reads, r is to come -/
structure LcI (K : PySem.W.Frag) (cl : Nat → Addr) (G1 H1 : Hp) (D0 : Addr) (F : D → Out (Option D)) (ds es : List D) (i : Nat) (H' Gi : Hp) (acc : List V) (ea r : List D) : Prop where
  g : Same G1 Gi
  s : Same Gi H'
  f : ∀ b, G1 b = none → Gi b ≠ none → H1 b = none
  h : Same H1 H'
  n : Gi D0 = none
  a : H' D0 = some (.lst acc)
  l : RL K cl Gi acc ea
  z : ea.length ≤ i
  c : compL F (ds.drop i) = .ok r
  e : es = ea ++ r
theorem LcI.on {K : PySem.W.Frag} {cl : Nat → Addr} {G1 H1 : Hp} {D0 : Addr} {F : D → Out (Option D)} {ds es : List D} {i : Nat} {H' Gi : Hp} {acc : List V} {ea r : List D} {G4 H4 : Hp} (I : LcI K cl G1 H1 D0 F ds es i H' Gi acc ea r) (h1 : H1 D0 = none)
    (x : Ext Gi H' G4 H4) : Same G1 G4 ∧ (∀ b, G1 b = none → G4 b ≠ none → H1 b = none) ∧ Same H1 H4 ∧ G4 D0 = none ∧ H4 D0 = some (.lst acc) ∧ RL K cl G4 acc ea := by
  have n4 : G4 D0 = none := by
    cases q : G4 D0 with
    | none => rfl
    | some o =>
      have := x.f D0 I.n (by rw [q]; simp)
      rw [I.a] at this; cases this
  refine ⟨I.g.trans x.g, fun b h h' => ?_, I.h.trans x.h, n4, x.h _ _ I.a, I.l.mono x.g⟩
  cases q : Gi b with
  | some o => exact I.f b h (by rw [q]; simp)
  | none => exact I.h.free (x.f b q h')
theorem compL_cons {F : D → Out (Option D)} {d : D} {ds r : List D} (h : compL F (d :: ds) = .ok r) : ∃ o r', F d = .ok o ∧ compL F ds = .ok r' ∧ r = o.toList ++ r' := by
  unfold compL at h
  split at h
  · rename_i o q
    cases q2 : compL F ds with
    | stuck => rw [q2] at h; cases h
    | exc x => rw [q2] at h; cases h
    | ok r' =>
      rw [q2] at h
      cases h
      exact ⟨o, r', q, rfl, rfl⟩
  · cases h
theorem compL_noexc {F : D → Out (Option D)} : ∀ (l : List D) (x : Exn), compL F l ≠ .exc x
  | [], x, h => by cases h
  | d :: l, x, h => by
    unfold compL at h
    split at h
    · cases q2 : compL F l with
      | stuck => rw [q2] at h; cases h
      | exc y => exact compL_noexc l y q2
      | ok r => rw [q2] at h; cases h
    · cases h
theorem bind_ok_of {α β : Type} {o : Out α} {f : α → Out β} {b : β} (h : o.bind f = .ok b) : ∃ a, o = .ok a ∧ f a = .ok b := by
  cases o with
  | stuck => cases h
  | exc x => cases h
  | ok a => exact ⟨a, rfl, h⟩
theorem compF_ok {fg : D → PEnv → Out PEnv} {mt : PEnv → Out Bool} {me : PEnv → Out D} {ρ : PEnv} {d : D} {o : Option D} (h : compF fg mt me ρ d = .ok o) :
    ∃ ρ2 c, fg d ρ = .ok ρ2 ∧ mt ρ2 = .ok c ∧ ((c = true ∧ ∃ e, me ρ2 = .ok e ∧ o = some e) ∨ (c = false ∧ o = none)) := by
  obtain ⟨ρ2, h1, h2⟩ := bind_ok_of h
  obtain ⟨c, h3, h4⟩ := bind_ok_of h2
  refine ⟨ρ2, c, h1, h3, ?_⟩
  cases c with
  | true =>
    obtain ⟨e, h5, h6⟩ := bind_ok_of (show (me ρ2).bind _ = .ok o from h4)
    cases h6
    exact .inl ⟨rfl, e, h5, rfl⟩
  | false =>
    cases (show (Out.ok none : Out (Option D)) = .ok o from h4)
    exact .inr ⟨rfl, rfl⟩
section
variable {X : Cx} {cl : Nat → Addr} {W : WX} {elt tg iter : Expr} {ifs : List Expr} {scope : Scope} {own : List (Str × Nat)} {is : List Nat} {fg : D → PEnv → Out PEnv} {mi : PEnv → Out (List D)} {mt : PEnv → Out Bool} {me : PEnv → Out D} {pos : Pos}
/-- the reading of a comprehension, whatever it stands in: once the walk's source is known -/
theorem lc_read {wi : TI} {σ : Sl} {ρ : PEnv} {G H : Hp} {Q : VK} {vs : List Nat} (hsub : ∀ i ∈ is, i ∈ vs)
    (hi : ∀ (G H : Hp) (σ : Sl) (ρ : PEnv) (R' : It → Hp → Prop), Same G H → RS X.K cl G σ ρ → PostI X.K cl W σ G H (mi ρ) R' → wi σ H R')
    (s : Same G H) (rs : RS X.K cl G σ ρ) (h : PostN X.K cl W σ G H ((mi ρ).bind fun ds => compD (compF fg mt me (wipeV ρ vs)) ds) Q) :
    tLc wi (wpG X.K cl is fg) (wpT X.K cl W0 mt) (wpP X.K cl W0 me) vs σ H Q := by
  refine hi G H σ ρ _ s rs ?_
  cases qi : mi ρ with
  | stuck => rw [qi] at h; exact h
  | exc x => rw [qi] at h; exact h
  | ok ds =>
  rw [qi] at h
  intro J G1 H1 e1 wk D0 hD0
  have h1 : PostN X.K cl W σ G1 H1 (compD (compF fg mt me (wipeV ρ vs)) ds) Q := PostN.mono e1 h
  obtain ⟨hz, h2⟩ := PostN.guard h1
  cases qc : compL (compF fg mt me (wipeV ρ vs)) ds with
  | stuck => rw [qc] at h2; exact h2.elim
  | exc x => exact (compL_noexc ds x qc).elim
  | ok es =>
  rw [qc] at h2
  refine ⟨fun i m H' => i ≤ ds.length ∧ m = ds.length - i ∧ ∃ Gi acc ea r, LcI X.K cl G1 H1 D0 (compF fg mt me (wipeV ρ vs)) ds es i H' Gi acc ea r, ⟨_, Nat.zero_le _, rfl, G1, [], [], es, ?_⟩, ?_⟩
  · exact ⟨.refl _, (Ext.lay (o := .lst []) e1.s hD0).s, fun _ a b => absurd a b, (Ext.lay (o := .lst []) e1.s hD0).h, e1.s.free hD0, upd_same, .nil, Nat.le_refl _, qc, rfl⟩
  · rintro i m H' ⟨hi, rfl, Gi, acc, ea, r, I⟩
    by_cases hlt : i < ds.length
    · refine .inr ⟨wk.go i H' (I.g.trans I.s) hlt, fun H2 => i + 1 ≤ ds.length ∧ ∃ Gi acc ea r, LcI X.K cl G1 H1 D0 (compF fg mt me (wipeV ρ vs)) ds es (i + 1) H2 Gi acc ea r, fun H2 ⟨a1, a2⟩ => ⟨ds.length - (i + 1), by omega, a1, rfl, a2⟩, fun x H2 y => ?_⟩
      have hd : ds.drop i = ds[i] :: ds.drop (i + 1) := List.drop_eq_getElem_cons hlt
      have hc := I.c
      rw [hd] at hc
      obtain ⟨o, r', ho, hr', rfl⟩ := compL_cons hc
      obtain ⟨ρ2, c, q1, q2, q3⟩ := compF_ok ho
      obtain ⟨G2, x2, rx⟩ := wk.yld i Gi H' x H2 ds[i] I.g I.s (List.getElem?_eq_getElem hlt) y
      refine ⟨G2, wipeV ρ vs, ds[i], x2.s, ((rs.mono (e1.g.trans (I.g.trans x2.g))).wipe vs), rx, ?_⟩
      rw [q1]
      intro σ2 rs2 kept
      refine ⟨kept.wipe hsub, G2, ρ2, x2.s, rs2, ?_⟩
      rw [q2]
      intro G3 H3 x3
      rcases q3 with ⟨rfl, e, q4, rfl⟩ | ⟨rfl, rfl⟩
      · refine ⟨G3, ρ2, x3.s, rs2.mono x3.g, ?_⟩
        rw [q4]
        intro v G4 H4 x4 rv
        obtain ⟨a1, a2, a3, a4, a5, a6⟩ := I.on hD0 (x2.trans (x3.trans x4))
        have hz' := I.z
        refine ⟨acc, a5, by rw [a6.length]; omega, hlt, G4, acc ++ [v], ea ++ [e], r', a1, ?_, a2, ?_, a4, upd_same, a6.append (.cons rv .nil), by rw [List.length_append]; simp; omega, hr', by rw [I.e, List.append_assoc]; rfl⟩
        · exact fun b o q => by rw [upd_ne (ne_of_none q a4)]; exact x4.s _ _ q
        · exact fun b o q => by rw [upd_ne (ne_of_none q hD0)]; exact a3 _ _ q
      · obtain ⟨a1, a2, a3, a4, a5, a6⟩ := I.on hD0 (x2.trans x3)
        exact ⟨hlt, G3, acc, ea, r', a1, x3.s, a2, a3, a4, a5, a6, Nat.le_succ_of_le I.z, hr', I.e⟩
    · have hi' : i = ds.length := by omega
      subst hi'
      refine .inl ⟨wk.stop _ H' (I.g.trans I.s) (Nat.le_refl _), ?_⟩
      have hc := I.c
      rw [List.drop_length] at hc
      cases hc
      have he := I.e
      rw [List.append_nil] at he
      subst he
      exact h2 D0 Gi H' ⟨I.g, I.h, I.s, I.f⟩ hD0 I.n (.lst I.a I.l)
theorem dn_lc (hc : X.calm = true) (hN : X.N.Nodup) (hi : DI X cl W tg iter mi) (ok : BlkOk X.N X.env.scope scope own) (hsub : ∀ i ∈ is, i ∈ own.map (·.2))
    (hg : ∀ (s : Shared) (H : Hp) (C : Addr) (cs : List (Str × Addr)) (fp : List Addr), DG (X.blk s H scope (compEnvC scope cs C X.env) fp) cl tg is fg)
    (ht : ∀ (s : Shared) (H : Hp) (C : Addr) (cs : List (Str × Addr)) (fp : List Addr), DTs (X.blk s H scope (compEnvC scope cs C X.env) fp) cl ifs mt)
    (he : ∀ (s : Shared) (H : Hp) (C : Addr) (cs : List (Str × Addr)) (fp : List Addr), DP (X.blk s H scope (compEnvC scope cs C X.env) fp) cl W0 elt me) (hs : ∀ x, foldedSetIterable iter X.env x = pure x := by intro _; rfl) :
    DN X cl W (.ListComp elt [⟨tg, iter, ifs, 0⟩] scope pos) (fun ρ => (mi ρ).bind fun ds => compD (compF fg mt me (wipeV ρ (own.map (·.2)))) ds) := by
  obtain ⟨wi, p, k⟩ := hi.ex
  exact ⟨_, pe_lc hc hN p ok (fun s H C cs fp => (hg s H C cs fp).pg) (fun s H C cs fp => (ht s H C cs fp).ex) (fun s H C cs fp => (he s H C cs fp).pe) hs, fun G H σ ρ Q s rs h => lc_read hsub k s rs h⟩
end
end Vx
end
section
set_option maxRecDepth 100000
set_option maxHeartbeats 1000000
/-! Vx5: slots that hold objects of their own; expressions and statements that change them. -/
namespace Vx
open PySem PySem.Spec PyProof.Rows L2
open Out (guard)

/-- a slot: nothing told; a shared thing; an object that this slot alone knows; such an object handed in by the caller -/
inductive Cell where
  | no | sh (d : D) | ow (d : D) | io (d : D)
abbrev Env := List Cell
/-- what becomes of a step -/
inductive Res (α : Type) where
  | stuck | ok (a : α) (ρ : Env) | exc (x : Exn) (ρ : Env)
namespace Res
def bind {α β : Type} : Res α → (α → Env → Res β) → Res β
  | .stuck, _ => .stuck
  | .ok a ρ, f => f a ρ
  | .exc x ρ, _ => .exc x ρ
@[simp] theorem bind_ok {α β : Type} (a : α) (ρ : Env) (f : α → Env → Res β) : (Res.ok a ρ).bind f = f a ρ := id rfl
@[simp] theorem bind_stuck {α β : Type} (f : α → Env → Res β) : (Res.stuck : Res α).bind f = .stuck := id rfl
@[simp] theorem bind_exc {α β : Type} (x : Exn) (ρ : Env) (f : α → Env → Res β) : (Res.exc x ρ : Res α).bind f = .exc x ρ := id rfl
end Res

def OwnedW (σ : Sl) (ρ : Env) (a : Addr) : Prop := ∃ (i : Nat) (d : D), ρ[i]? = some (.ow d) ∧ σ[i]? = some (some (.ref a))
def OwnedI (σ : Sl) (ρ : Env) (a : Addr) : Prop := ∃ (i : Nat) (d : D), ρ[i]? = some (.io d) ∧ σ[i]? = some (some (.ref a))
def Owned (σ : Sl) (ρ : Env) (a : Addr) : Prop := OwnedW σ ρ a ∨ OwnedI σ ρ a

section
variable (K : PySem.W.Frag) (cl : Nat → Addr)
/-- the slots are as told -/
structure Sr (G H : Hp) (σ : Sl) (ρ : Env) : Prop where
  s : Same G H
  len : ρ.length = σ.length
  sh : ∀ (i : Nat) (d : D), ρ[i]? = some (.sh d) → ∃ v, σ[i]? = some (some v) ∧ R K cl G v d
  own : ∀ (i : Nat) (d : D), ρ[i]? = some (.ow d) ∨ ρ[i]? = some (.io d) → ∃ a, σ[i]? = some (some (.ref a)) ∧ G a = none ∧ Top K cl G H a d
  inj : ∀ (i j : Nat) (d e : D) (a : Addr), ρ[i]? = some (.ow d) ∨ ρ[i]? = some (.io d) → ρ[j]? = some (.ow e) ∨ ρ[j]? = some (.io e) → σ[i]? = some (some (.ref a)) → σ[j]? = some (some (.ref a)) → i = j
end
/-- from one state to a later one -/
structure Stp (G H : Hp) (σ : Sl) (ρ : Env) (G' H' : Hp) (σ' : Sl) (ρ' : Env) : Prop where
  g : Same G G'
  gf : ∀ b, G b = none → G' b ≠ none → H b = none ∨ OwnedW σ ρ b
  fr : ∀ b o, H b = some o → ¬ Owned σ ρ b → H' b = some o
  nw : ∀ b, OwnedW σ' ρ' b → H b = none ∨ OwnedW σ ρ b
  io : ∀ (i : Nat) (d : D), ρ[i]? = some (.io d) → (∃ d', ρ'[i]? = some (.io d')) ∧ σ'[i]? = σ[i]?
  oi : ∀ (i : Nat) (d : D), ρ'[i]? = some (.io d) → ∃ d', ρ[i]? = some (.io d')
  len : σ'.length = σ.length
section
variable {K : PySem.W.Frag} {cl : Nat → Addr} {G H G1 H1 G2 H2 : Hp} {σ σ1 σ2 : Sl} {ρ ρ1 ρ2 : Env}
theorem Stp.refl : Stp G H σ ρ G H σ ρ := ⟨.refl _, fun _ a b => absurd a b, fun _ _ h _ => h, fun _ h => .inr h, fun i d h => ⟨⟨d, h⟩, rfl⟩, fun i d h => ⟨d, h⟩, rfl⟩
theorem Sr.there (S : Sr K cl G H σ ρ) {b : Addr} (h : Owned σ ρ b) : ∃ o, H b = some o := by
  rcases h with ⟨i, d, h1, h2⟩ | ⟨i, d, h1, h2⟩
  · obtain ⟨a, e1, _, t⟩ := S.own i d (.inl h1)
    rw [h2] at e1; cases e1
    exact t.there
  · obtain ⟨a, e1, _, t⟩ := S.own i d (.inr h1)
    rw [h2] at e1; cases e1
    exact t.there
theorem Sr.apart (S : Sr K cl G H σ ρ) {b : Addr} (h : Owned σ ρ b) : G b = none := by
  rcases h with ⟨i, d, h1, h2⟩ | ⟨i, d, h1, h2⟩
  · obtain ⟨a, e1, n, t⟩ := S.own i d (.inl h1)
    rw [h2] at e1; cases e1
    exact n
  · obtain ⟨a, e1, n, t⟩ := S.own i d (.inr h1)
    rw [h2] at e1; cases e1
    exact n
/-- new behind a first step, or its slot's own: new ahead of it, or a slot's own then -/
theorem Stp.fresh (a : Stp G H σ ρ G1 H1 σ1 ρ1) (S : Sr K cl G1 H1 σ1 ρ1) {b : Addr} (h : H1 b = none ∨ OwnedW σ1 ρ1 b) : H b = none ∨ OwnedW σ ρ b := by
  rcases h with h | h
  · cases q : H b with
    | none => exact .inl rfl
    | some o =>
      by_cases hw : OwnedW σ ρ b
      · exact .inr hw
      · by_cases hi : OwnedI σ ρ b
        · obtain ⟨i, d, e1, e2⟩ := hi
          obtain ⟨⟨d', e3⟩, e4⟩ := a.io i d e1
          obtain ⟨o', q'⟩ := S.there (b := b) (.inr ⟨i, d', e3, e4.trans e2⟩)
          rw [h] at q'; cases q'
        · have := a.fr b o q fun z => z.elim hw hi
          rw [h] at this; cases this
  · exact a.nw b h
theorem Stp.trans (a : Stp G H σ ρ G1 H1 σ1 ρ1) (S : Sr K cl G1 H1 σ1 ρ1) (b : Stp G1 H1 σ1 ρ1 G2 H2 σ2 ρ2) : Stp G H σ ρ G2 H2 σ2 ρ2 where
  g := a.g.trans b.g
  gf := fun x h h' => by
    cases q : G1 x with
    | some o => exact a.gf x h (by rw [q]; simp)
    | none => exact a.fresh S (b.gf x q h')
  fr := fun x o h n => b.fr x o (a.fr x o h n) fun z => by
    rcases z with z | ⟨i, d, e1, e2⟩
    · rcases a.nw x z with w | w
      · rw [h] at w; cases w
      · exact n (.inl w)
    · obtain ⟨d', e3⟩ := a.oi i d e1
      obtain ⟨_, e4⟩ := a.io i d' e3
      exact n (.inr ⟨i, d', e3, e4.symm.trans e2⟩)
  nw := fun x h => a.fresh S (b.nw x h)
  io := fun i d h => by
    obtain ⟨⟨d', e1⟩, e2⟩ := a.io i d h
    obtain ⟨e3, e4⟩ := b.io i d' e1
    exact ⟨e3, e4.trans e2⟩
  oi := fun i d h => by
    obtain ⟨d', e1⟩ := b.oi i d h
    exact a.oi i d' e1
  len := b.len.trans a.len
/-- a pure step -/
theorem Stp.pure (S : Sr K cl G H σ ρ) (x : Ext G H G1 H1) : Stp G H σ ρ G1 H1 σ ρ ∧ Sr K cl G1 H1 σ ρ := by
  refine ⟨⟨x.g, fun b h h' => .inl (x.f b h h'), fun b o h _ => x.h _ _ h, fun _ h => .inr h, fun i d h => ⟨⟨d, h⟩, rfl⟩, fun i d h => ⟨d, h⟩, rfl⟩,
    ⟨x.s, S.len, fun i d h => let ⟨v, a, b⟩ := S.sh i d h; ⟨v, a, b.mono x.g⟩, fun i d h => ?_, S.inj⟩⟩
  obtain ⟨a, e, n, t⟩ := S.own i d h
  refine ⟨a, e, ?_, t.mono x.g fun o q => x.h _ _ q⟩
  cases q : G1 a with
  | none => rfl
  | some o =>
    have := x.f a n (by rw [q]; simp)
    obtain ⟨o', q'⟩ := t.there
    rw [this] at q'; cases q'
end

/-! ### what is seen of the slots -/
def Cell.all : Cell → Option D
  | .no => none
  | .sh d => some d
  | .ow d => some d
  | .io d => some d
def Cell.shared : Cell → Option D
  | .sh d => some d
  | _ => none
def viewA (ρ : Env) : PEnv := ρ.map Cell.all
def viewS (ρ : Env) : PEnv := ρ.map Cell.shared
/-- an object of a slot's own becomes a shared one -/
def frz1 (ρ : Env) (i : Nat) : Env := match ρ[i]? with
  | some (.ow d) => ρ.set i (.sh d)
  | _ => ρ
def frz (T : List Nat) (ρ : Env) : Env := T.foldl frz1 ρ
def scalar : D → Bool
  | .non | .bl _ | .int _ | .str _ => true
  | _ => false
def flatD : D → Bool
  | .lst ds => ds.all scalar
  | .dK kvs => kvs.all fun p => scalar p.2
  | _ => false
section
variable {K : PySem.W.Frag} {cl : Nat → Addr} {G H G1 H1 G2 H2 : Hp} {σ σ1 σ2 : Sl} {ρ ρ1 ρ2 : Env}
theorem map_get {α β : Type} (f : α → β) (l : List α) (i : Nat) : (l.map f)[i]? = (l[i]?).map f := List.getElem?_map
theorem Sr.viewA (S : Sr K cl G H σ ρ) : RS K cl H σ (viewA ρ) := by
  refine ⟨by unfold Vx.viewA; rw [List.length_map]; exact S.len, fun i d h => ?_⟩
  unfold Vx.viewA at h
  rw [map_get] at h
  cases q : ρ[i]? with
  | none => rw [q] at h; cases h
  | some c =>
    rw [q] at h
    cases c with
    | no => cases h
    | sh e =>
      cases h
      obtain ⟨v, a, b⟩ := S.sh i d q
      exact ⟨v, a, b.mono S.s⟩
    | ow e =>
      cases h
      obtain ⟨a, e, n, t⟩ := S.own i d (.inl q)
      exact ⟨_, e, t.all S.s⟩
    | io e =>
      cases h
      obtain ⟨a, e, n, t⟩ := S.own i d (.inr q)
      exact ⟨_, e, t.all S.s⟩
theorem Sr.viewS (S : Sr K cl G H σ ρ) : RS K cl G σ (viewS ρ) := by
  refine ⟨by unfold Vx.viewS; rw [List.length_map]; exact S.len, fun i d h => ?_⟩
  unfold Vx.viewS at h
  rw [map_get] at h
  cases q : ρ[i]? with
  | none => rw [q] at h; cases h
  | some c =>
    rw [q] at h
    cases c with
    | sh e => cases h; exact S.sh i d q
    | _ => cases h
theorem frz1_get (ρ : Env) (i j : Nat) : (frz1 ρ i)[j]? = if j = i then (match ρ[i]? with | some (.ow d) => some (.sh d) | c => c) else ρ[j]? := by
  unfold frz1
  by_cases hj : j = i
  · subst hj
    rw [if_pos rfl]
    cases q : ρ[j]? with
    | none => simp only [q]
    | some c =>
      cases c with
      | ow d =>
        have hl : j < ρ.length := (List.getElem?_eq_some_iff.mp q).1
        simp only []
        rw [List.getElem?_set_self hl]
      | _ => simp only [q]
  · rw [if_neg hj]
    split
    · rw [List.getElem?_set_ne (Ne.symm hj)]
    · rfl
theorem frz1_len (ρ : Env) (i : Nat) : (frz1 ρ i).length = ρ.length := by
  unfold frz1
  split
  · rw [List.length_set]
  · rfl
theorem frz1_own {i j : Nat} {d : D} (h : (frz1 ρ i)[j]? = some (.ow d) ∨ (frz1 ρ i)[j]? = some (.io d)) : (ρ[j]? = some (.ow d) ∨ ρ[j]? = some (.io d)) ∧ (j = i → ρ[j]? = some (.io d)) := by
  rw [frz1_get] at h
  by_cases hj : j = i
  · subst hj
    rw [if_pos rfl] at h
    cases q : ρ[j]? with
    | none => rw [q] at h; rcases h with h | h <;> cases h
    | some c =>
      rw [q] at h
      cases c with
      | ow e => rcases h with h | h <;> cases h
      | io e =>
        rcases h with h | h
        · cases h
        · cases h; exact ⟨.inr rfl, fun _ => rfl⟩
      | _ => rcases h with h | h <;> cases h
  · rw [if_neg hj] at h
    exact ⟨h, fun z => absurd z hj⟩
/-- one object is made known -/
theorem frz1_ok (S : Sr K cl G H σ ρ) (i : Nat) : ∃ G1, Stp G H σ ρ G1 H σ (frz1 ρ i) ∧ Sr K cl G1 H σ (frz1 ρ i) := by
  cases q : ρ[i]? with
  | none => rw [show frz1 ρ i = ρ by unfold frz1; rw [q]]; exact ⟨G, .refl, S⟩
  | some c =>
  cases c with
  | no => rw [show frz1 ρ i = ρ by unfold frz1; rw [q]]; exact ⟨G, .refl, S⟩
  | sh d => rw [show frz1 ρ i = ρ by unfold frz1; rw [q]]; exact ⟨G, .refl, S⟩
  | io d => rw [show frz1 ρ i = ρ by unfold frz1; rw [q]]; exact ⟨G, .refl, S⟩
  | ow d =>
    obtain ⟨a, e, n, t⟩ := S.own i d (.inl q)
    have hs : Same G (put G a H) := put_ext n
    refine ⟨put G a H, ⟨hs, fun b h h' => ?_, fun _ _ h _ => h, fun b h => ?_, fun j d' h => ⟨⟨d', ?_⟩, rfl⟩, fun j d' h => ⟨d', ?_⟩, rfl⟩, fun b o h => ?_, by rw [frz1_len]; exact S.len, fun j d' h => ?_, fun j d' h => ?_, fun j k d1 d2 b h1 h2 => ?_⟩
    · by_cases hb : b = a
      · subst hb; exact .inr ⟨i, d, q, e⟩
      · rw [put_ne hb] at h'; exact absurd h h'
    · obtain ⟨j, d', h1, h2⟩ := h
      have h3 := (frz1_own (.inl h1)).1
      rcases h3 with h3 | h3
      · exact .inr ⟨j, d', h3, h2⟩
      · rw [frz1_get] at h1
        split at h1
        · rename_i hj; subst hj; rw [q] at h3; cases h3
        · rw [h3] at h1; cases h1
    · rw [frz1_get]
      split
      · rename_i hj; subst hj; rw [q] at h; cases h
      · exact h
    · have h3 := (frz1_own (.inr h)).1
      rcases h3 with h3 | h3
      · rw [frz1_get] at h
        split at h
        · rename_i hj; subst hj; rw [q] at h; cases h
        · rw [h3] at h; cases h
      · exact h3
    · by_cases hb : b = a
      · subst hb; rw [put_same] at h; exact h
      · rw [put_ne hb] at h; exact S.s _ _ h
    · rw [frz1_get] at h
      by_cases hj : j = i
      · subst hj
        rw [if_pos rfl, q] at h
        cases h
        exact ⟨_, e, t.read n⟩
      · rw [if_neg hj] at h
        obtain ⟨v, h1, h2⟩ := S.sh j d' h
        exact ⟨v, h1, h2.mono hs⟩
    · obtain ⟨h1, h2⟩ := frz1_own h
      obtain ⟨b, e', n', t'⟩ := S.own j d' h1
      refine ⟨b, e', ?_, t'.mono hs fun o q => q⟩
      have hb : b ≠ a := by
        rintro rfl
        have hij := S.inj j i d' d b h1 (.inl q) e' e
        have := h2 hij
        subst hij
        rw [q] at this; cases this
      rw [put_ne hb]; exact n'
    · exact S.inj j k d1 d2 b (frz1_own h1).1 (frz1_own h2).1
theorem frz_ok : ∀ (T : List Nat) {G : Hp} {ρ : Env}, Sr K cl G H σ ρ → ∃ G1, Stp G H σ ρ G1 H σ (frz T ρ) ∧ Sr K cl G1 H σ (frz T ρ)
  | [], G, ρ, S => ⟨G, .refl, S⟩
  | i :: T, G, ρ, S => by
    obtain ⟨G1, s1, S1⟩ := frz1_ok S i
    obtain ⟨G2, s2, S2⟩ := frz_ok T S1
    exact ⟨G2, s1.trans S1 s2, S2⟩
theorem R.scal {v : V} {d : D} (h : scalar d = true) (r : R K cl G v d) : R K cl G1 v d := by
  cases r <;> first | exact .non | exact .bl _ | exact .int _ | exact .str _ | cases h
theorem RL.scal : ∀ {vs : List V} {ds : List D}, ds.all scalar = true → RL K cl G vs ds → RL K cl G1 vs ds
  | _, _, _, .nil => .nil
  | _, _, h, .cons a b => by
    rw [List.all_cons, Bool.and_eq_true] at h
    exact .cons (a.scal h.1) (RL.scal h.2 b)
theorem Top.flat {d : D} {p : Addr} (h : flatD d = true) (t : Top K cl G H p d) : Top K cl G1 H p d := by
  cases t with
  | lst a r => exact .lst a (r.scal h)
  | dK a k r => exact .dK a k (r.scal (by rw [List.all_map]; exact h))
  | _ => cases h
end

/-! ### expressions that may change slots' objects -/
section
variable (K : PySem.W.Frag) (cl : Nat → Addr) (W : WX)
def PostE (G H : Hp) (σ : Sl) (ρ : Env) (o : Res D) (Q : VK) : Prop := match o with
  | .stuck => False
  | .ok d ρ' => ∀ v G' H', Stp G H σ ρ G' H' σ ρ' → Sr K cl G' H' σ ρ' → R K cl G' v d → Q v H'
  | .exc x ρ' => ∀ c dx G' H', Stp G H σ ρ G' H' σ ρ' → Sr K cl G' H' σ ρ' → RX K cl G' H' c dx x → W c dx σ H'
/-- a new object at p -/
def PostF (G H : Hp) (σ : Sl) (ρ : Env) (o : Res D) (Q : VK) : Prop := match o with
  | .stuck => False
  | .ok d ρ' => ∀ p G' H', Stp G H σ ρ G' H' σ ρ' → Sr K cl G' H' σ ρ' → (H p = none ∨ OwnedW σ ρ p) → ¬ Owned σ ρ' p → G' p = none → Top K cl G' H' p d → Q (.ref p) H'
  | .exc x ρ' => ∀ c dx G' H', Stp G H σ ρ G' H' σ ρ' → Sr K cl G' H' σ ρ' → RX K cl G' H' c dx x → W c dx σ H'
def PostEB (G H : Hp) (σ : Sl) (ρ : Env) (o : Res Bool) (Q : Bool → Hp → Prop) : Prop := match o with
  | .stuck => False
  | .ok d ρ' => ∀ G' H', Stp G H σ ρ G' H' σ ρ' → Sr K cl G' H' σ ρ' → Q d H'
  | .exc x ρ' => ∀ c dx G' H', Stp G H σ ρ G' H' σ ρ' → Sr K cl G' H' σ ρ' → RX K cl G' H' c dx x → W c dx σ H'
end
structure DE (X : Cx) (cl : Nat → Addr) (W : WX) (e : Expr) (m : Env → Res D) : Prop where
  ex : ∃ t : TE, PE X e t ∧ ∀ (G H : Hp) (σ : Sl) (ρ : Env) (Q : VK), Sr X.K cl G H σ ρ → PostE X.K cl W G H σ ρ (m ρ) Q → t σ H Q
structure DF (X : Cx) (cl : Nat → Addr) (W : WX) (e : Expr) (m : Env → Res D) : Prop where
  ex : ∃ t : TE, PE X e t ∧ ∀ (G H : Hp) (σ : Sl) (ρ : Env) (Q : VK), Sr X.K cl G H σ ρ → PostF X.K cl W G H σ ρ (m ρ) Q → t σ H Q
structure DB (X : Cx) (cl : Nat → Addr) (W : WX) (e : Expr) (m : Env → Res Bool) : Prop where
  ex : ∃ t : TT, PT X e t ∧ ∀ (G H : Hp) (σ : Sl) (ρ : Env) (Q : Bool → Hp → Prop), Sr X.K cl G H σ ρ → PostEB X.K cl W G H σ ρ (m ρ) Q → t σ H Q
section
variable {K : PySem.W.Frag} {cl : Nat → Addr} {W : WX} {G H G1 H1 G2 H2 : Hp} {σ σ1 σ2 : Sl} {ρ ρ1 ρ2 : Env}
theorem PostE.on {o : Res D} {Q : VK} (a : Stp G H σ ρ G1 H1 σ ρ1) (S : Sr K cl G1 H1 σ ρ1) (h : PostE K cl W G H σ ρ o Q) : PostE K cl W G1 H1 σ ρ1 o Q := by
  cases o with
  | stuck => exact h
  | ok d ρ' => exact fun v G' H' b S' r => h v G' H' (a.trans S b) S' r
  | exc x ρ' => exact fun c dx G' H' b S' r => h c dx G' H' (a.trans S b) S' r
theorem PostF.on {o : Res D} {Q : VK} (a : Stp G H σ ρ G1 H1 σ ρ1) (S : Sr K cl G1 H1 σ ρ1) (h : PostF K cl W G H σ ρ o Q) : PostF K cl W G1 H1 σ ρ1 o Q := by
  cases o with
  | stuck => exact h
  | ok d ρ' => exact fun p G' H' b S' hp ho hn r => h p G' H' (a.trans S b) S' (a.fresh S hp) ho hn r
  | exc x ρ' => exact fun c dx G' H' b S' r => h c dx G' H' (a.trans S b) S' r
theorem PostEB.on {o : Res Bool} {Q : Bool → Hp → Prop} (a : Stp G H σ ρ G1 H1 σ ρ1) (S : Sr K cl G1 H1 σ ρ1) (h : PostEB K cl W G H σ ρ o Q) : PostEB K cl W G1 H1 σ ρ1 o Q := by
  cases o with
  | stuck => exact h
  | ok d ρ' => exact fun G' H' b S' => h G' H' (a.trans S b) S'
  | exc x ρ' => exact fun c dx G' H' b S' r => h c dx G' H' (a.trans S b) S' r
/-- a new object, made known, is a shared thing -/
theorem PostE.ofF {o : Res D} {Q : VK} (S0 : Sr K cl G H σ ρ) (h : PostE K cl W G H σ ρ o Q) : PostF K cl W G H σ ρ o Q := by
  cases o with
  | stuck => exact h
  | exc x ρ' => exact h
  | ok d ρ' =>
    intro p G' H' st S hp ho hn t
    have hs : Same G' (put G' p H') := put_ext hn
    refine h (.ref p) (put G' p H') H' ⟨st.g.trans hs, fun b q q' => ?_, st.fr, st.nw, st.io, st.oi, st.len⟩ ⟨fun b o q => ?_, S.len, fun i d q => ?_, fun i d q => ?_, S.inj⟩ (t.read hn)
    · by_cases hb : b = p
      · subst hb; exact hp
      · rw [put_ne hb] at q'; exact st.gf b q q'
    · by_cases hb : b = p
      · subst hb; rw [put_same] at q; exact q
      · rw [put_ne hb] at q; exact S.s _ _ q
    · obtain ⟨v, a, b⟩ := S.sh i d q
      exact ⟨v, a, b.mono hs⟩
    · obtain ⟨a, e, n, t'⟩ := S.own i d q
      refine ⟨a, e, ?_, t'.mono hs fun o q => q⟩
      have : a ≠ p := by
        rintro rfl
        rcases q with q | q
        · exact ho (.inl ⟨i, d, q, e⟩)
        · exact ho (.inr ⟨i, d, q, e⟩)
      rw [put_ne this]; exact n
end
section
variable {X : Cx} {cl : Nat → Addr} {W : WX} {a b c e : Expr} {ma mb : PEnv → Out D} {mt : PEnv → Out Bool} {m : Env → Res D}
theorem DF.de (h : DF X cl W e m) : DE X cl W e m :=
  let ⟨t, p, k⟩ := h.ex
  ⟨t, p, fun G H σ ρ Q S h => k G H σ ρ Q S (h.ofF S)⟩
/-- a pure expression whose value is a number, a text, True, False or None: all slots are seen -/
def flatE (m : PEnv → Out D) (ρ : Env) : Res D := match m (viewA ρ) with
  | .ok d => if scalar d = true then .ok d ρ else .stuck
  | .exc x => if scalar x.d = true then .exc x ρ else .stuck
  | .stuck => .stuck
theorem RX.scal {K : PySem.W.Frag} {G G' H : Hp} {c : Value} {dx : Option Addr} {x : Exn} (h : scalar x.d = true) (r : RX K cl G H c dx x) : RX K cl G' H c dx x := by
  obtain ⟨e, a, v, h1, h2, h3⟩ := r
  exact ⟨e, a, v, h1, h2, h3.scal h⟩
theorem Sr.grow {K : PySem.W.Frag} {G H H' : Hp} {σ : Sl} {ρ : Env} (S : Sr K cl G H σ ρ) (h : Same H H') : Stp G H σ ρ G H' σ ρ ∧ Sr K cl G H' σ ρ :=
  Stp.pure S ⟨.refl _, h, S.s.trans h, fun _ a b => absurd a b⟩
theorem de_flat (h : DP X cl W e ma) : DE X cl W e (flatE ma) := by
  obtain ⟨t, p, k⟩ := h.ex
  refine ⟨t, p, fun G H σ ρ Q S h => k H H σ (viewA ρ) Q (.refl _) S.viewA ?_⟩
  unfold flatE at h
  cases q : ma (viewA ρ) with
  | stuck => rw [q] at h; exact h
  | ok d =>
    rw [q] at h
    intro v G' H' x r
    by_cases hd : scalar d = true
    · simp only [hd, if_true] at h
      obtain ⟨st, S'⟩ := S.grow x.h
      exact h v G H' st S' (r.scal hd)
    · simp only [hd, if_false] at h
      exact h.elim
  | exc y =>
    rw [q] at h
    intro c dx G' H' x r
    by_cases hd : scalar y.d = true
    · simp only [hd, if_true] at h
      obtain ⟨st, S'⟩ := S.grow x.h
      exact h c dx G H' st S' (RX.scal hd r)
    · simp only [hd, if_false] at h
      exact h.elim
/-- a pure expression over shared things; the objects of the slots T become shared first -/
def frzE (T : List Nat) (m : PEnv → Out D) (ρ : Env) : Res D := match m (viewS (frz T ρ)) with
  | .ok d => .ok d (frz T ρ)
  | .exc x => .exc x (frz T ρ)
  | .stuck => .stuck
theorem de_frz (T : List Nat) (h : DP X cl W e ma) : DE X cl W e (frzE T ma) := by
  obtain ⟨t, p, k⟩ := h.ex
  refine ⟨t, p, fun G H σ ρ Q S h => ?_⟩
  obtain ⟨G1, st, S1⟩ := frz_ok T S
  refine k G1 H σ (viewS (frz T ρ)) Q S1.s S1.viewS ?_
  unfold frzE at h
  cases q : ma (viewS (frz T ρ)) with
  | stuck => rw [q] at h; exact h
  | ok d =>
    rw [q] at h
    intro v G' H' x r
    obtain ⟨s2, S2⟩ := Stp.pure S1 x
    exact h v G' H' (st.trans S1 s2) S2 r
  | exc y =>
    rw [q] at h
    intro c dx G' H' x r
    obtain ⟨s2, S2⟩ := Stp.pure S1 x
    exact h c dx G' H' (st.trans S1 s2) S2 r
/-- a new object of numbers, texts and their like: all slots are seen -/
def flatN (m : PEnv → Out D) (ρ : Env) : Res D := match m (viewA ρ) with
  | .ok d => if flatD d = true then .ok d ρ else .stuck
  | .exc x => if scalar x.d = true then .exc x ρ else .stuck
  | .stuck => .stuck
theorem df_flat (h : DN X cl W e ma) : DF X cl W e (flatN ma) := by
  obtain ⟨t, p, k⟩ := h.ex
  refine ⟨t, p, fun G H σ ρ Q S h => k H H σ (viewA ρ) Q (.refl _) S.viewA ?_⟩
  unfold flatN at h
  cases q : ma (viewA ρ) with
  | stuck => rw [q] at h; exact h
  | ok d =>
    rw [q] at h
    intro p G' H' x hp hn r
    by_cases hd : flatD d = true
    · simp only [hd, if_true] at h
      obtain ⟨st, S'⟩ := S.grow x.h
      refine h p G H' st S' (.inl hp) (fun z => ?_) (S.s.free hp) (r.flat hd)
      obtain ⟨o, q⟩ := S.there z
      rw [hp] at q; cases q
    · simp only [hd, if_false] at h
      exact h.elim
  | exc y =>
    rw [q] at h
    intro c dx G' H' x r
    by_cases hd : scalar y.d = true
    · simp only [hd, if_true] at h
      obtain ⟨st, S'⟩ := S.grow x.h
      exact h c dx G H' st S' (RX.scal hd r)
    · simp only [hd, if_false] at h
      exact h.elim
theorem df_frz (T : List Nat) (h : DN X cl W e ma) : DF X cl W e (frzE T ma) := by
  obtain ⟨t, p, k⟩ := h.ex
  refine ⟨t, p, fun G H σ ρ Q S h => ?_⟩
  obtain ⟨G1, st, S1⟩ := frz_ok T S
  refine k G1 H σ (viewS (frz T ρ)) Q S1.s S1.viewS ?_
  unfold frzE at h
  cases q : ma (viewS (frz T ρ)) with
  | stuck => rw [q] at h; exact h
  | ok d =>
    rw [q] at h
    intro p G' H' x hp hn r
    obtain ⟨s2, S2⟩ := Stp.pure S1 x
    refine h p G' H' (st.trans S1 s2) S2 (.inl hp) (fun z => ?_) hn r
    obtain ⟨o, q⟩ := S1.there z
    rw [hp] at q; cases q
  | exc y =>
    rw [q] at h
    intro c dx G' H' x r
    obtain ⟨s2, S2⟩ := Stp.pure S1 x
    exact h c dx G' H' (st.trans S1 s2) S2 r
/-- a pure test: all slots are seen -/
def flatB (m : PEnv → Out Bool) (ρ : Env) : Res Bool := match m (viewA ρ) with
  | .ok d => .ok d ρ
  | .exc x => if scalar x.d = true then .exc x ρ else .stuck
  | .stuck => .stuck
theorem db_flat (h : DT X cl W e mt) : DB X cl W e (Vx.flatB mt) := by
  obtain ⟨t, p, k⟩ := h.ex
  refine ⟨t, p, fun G H σ ρ Q S h => k H H σ (viewA ρ) Q (.refl _) S.viewA ?_⟩
  unfold Vx.flatB at h
  cases q : mt (viewA ρ) with
  | stuck => rw [q] at h; exact h
  | ok d =>
    rw [q] at h
    intro G' H' x
    obtain ⟨st, S'⟩ := S.grow x.h
    exact h G H' st S'
  | exc y =>
    rw [q] at h
    intro c dx G' H' x r
    by_cases hd : scalar y.d = true
    · simp only [hd, if_true] at h
      obtain ⟨st, S'⟩ := S.grow x.h
      exact h c dx G H' st S' (RX.scal hd r)
    · simp only [hd, if_false] at h
      exact h.elim
end
end Vx
end
section
set_option maxRecDepth 100000
set_option maxHeartbeats 1000000
/-! Vx6: statements. -/
namespace Vx
open PySem PySem.Spec PyProof.Rows L2
open Out (guard)

inductive SRes where
  | stuck | nx (ρ : Env) | rt (d : D) (ρ : Env) | bk (ρ : Env) | ct (ρ : Env) | exc (x : Exn) (ρ : Env)
def SRes.then : SRes → (Env → SRes) → SRes
  | .nx ρ, f => f ρ
  | r, _ => r
@[simp] theorem SRes.then_nx (ρ : Env) (f : Env → SRes) : (SRes.nx ρ).then f = f ρ := id rfl
@[simp] theorem SRes.then_rt (d : D) (ρ : Env) (f : Env → SRes) : (SRes.rt d ρ).then f = .rt d ρ := id rfl
@[simp] theorem SRes.then_bk (ρ : Env) (f : Env → SRes) : (SRes.bk ρ).then f = .bk ρ := id rfl
@[simp] theorem SRes.then_ct (ρ : Env) (f : Env → SRes) : (SRes.ct ρ).then f = .ct ρ := id rfl
@[simp] theorem SRes.then_stuck (f : Env → SRes) : SRes.stuck.then f = .stuck := id rfl
@[simp] theorem SRes.then_exc (x : Exn) (ρ : Env) (f : Env → SRes) : (SRes.exc x ρ).then f = .exc x ρ := id rfl
/-- a value, then a statement's end -/
def Res.fin {α : Type} : Res α → (α → Env → SRes) → SRes
  | .ok a ρ, f => f a ρ
  | .exc x ρ, _ => .exc x ρ
  | .stuck, _ => .stuck
@[simp] theorem Res.fin_ok {α : Type} (a : α) (ρ : Env) (f : α → Env → SRes) : (Res.ok a ρ).fin f = f a ρ := id rfl
@[simp] theorem Res.fin_exc {α : Type} (x : Exn) (ρ : Env) (f : α → Env → SRes) : (Res.exc x ρ : Res α).fin f = .exc x ρ := id rfl
@[simp] theorem Res.fin_stuck {α : Type} (f : α → Env → SRes) : (Res.stuck : Res α).fin f = .stuck := id rfl

section
variable (K : PySem.W.Frag) (cl : Nat → Addr) (W : WX) (fr : Bool)
/-- what a return hands on -/
def PostR (G H : Hp) (σ : Sl) (ρ : Env) (d : D) (ρ' : Env) (Q : VK) : Prop := match fr with
  | true => ∀ p σ' G' H', Stp G H σ ρ G' H' σ' ρ' → Sr K cl G' H' σ' ρ' → (H p = none ∨ OwnedW σ ρ p) → ¬ Owned σ' ρ' p → G' p = none → Top K cl G' H' p d → Q (.ref p) H'
  | false => ∀ v σ' G' H', Stp G H σ ρ G' H' σ' ρ' → Sr K cl G' H' σ' ρ' → R K cl G' v d → Q v H'
def PostS (G H : Hp) (σ : Sl) (ρ : Env) (o : SRes) (D : Ends) : Prop := match o with
  | .stuck => False
  | .nx ρ' => ∀ σ' G' H', Stp G H σ ρ G' H' σ' ρ' → Sr K cl G' H' σ' ρ' → D.nx σ' H'
  | .bk ρ' => ∀ σ' G' H', Stp G H σ ρ G' H' σ' ρ' → Sr K cl G' H' σ' ρ' → D.bk σ' H'
  | .ct ρ' => ∀ σ' G' H', Stp G H σ ρ G' H' σ' ρ' → Sr K cl G' H' σ' ρ' → D.ct σ' H'
  | .rt d ρ' => PostR K cl fr G H σ ρ d ρ' D.rt
  | .exc x ρ' => ∀ c dx σ' G' H', Stp G H σ ρ G' H' σ' ρ' → Sr K cl G' H' σ' ρ' → RX K cl G' H' c dx x → W c dx σ' H'
end
structure DS (X : Cx) (cl : Nat → Addr) (W : WX) (fr : Bool) (st : Stmt) (m : Env → SRes) : Prop where
  ex : ∃ t : TS, PS X st t ∧ ∀ (G H : Hp) (σ : Sl) (ρ : Env) (D : Ends), Sr X.K cl G H σ ρ → PostS X.K cl W fr G H σ ρ (m ρ) D → t D σ H
structure DSs (X : Cx) (cl : Nat → Addr) (W : WX) (fr : Bool) (st : List Stmt) (m : Env → SRes) : Prop where
  ex : ∃ t : TS, PSs X st t ∧ ∀ (G H : Hp) (σ : Sl) (ρ : Env) (D : Ends), Sr X.K cl G H σ ρ → PostS X.K cl W fr G H σ ρ (m ρ) D → t D σ H
section
variable {K : PySem.W.Frag} {cl : Nat → Addr} {W : WX} {fr : Bool} {G H G1 H1 G2 H2 : Hp} {σ σ1 σ2 : Sl} {ρ ρ1 ρ2 : Env}
theorem PostR.on {d : D} {ρ' : Env} {Q : VK} (a : Stp G H σ ρ G1 H1 σ1 ρ1) (S : Sr K cl G1 H1 σ1 ρ1) (h : PostR K cl fr G H σ ρ d ρ' Q) : PostR K cl fr G1 H1 σ1 ρ1 d ρ' Q := by
  cases fr with
  | true => exact fun p σ' G' H' b S' hp ho hn r => h p σ' G' H' (a.trans S b) S' (a.fresh S hp) ho hn r
  | false => exact fun v σ' G' H' b S' r => h v σ' G' H' (a.trans S b) S' r
theorem PostS.on {o : SRes} {D : Ends} (a : Stp G H σ ρ G1 H1 σ1 ρ1) (S : Sr K cl G1 H1 σ1 ρ1) (h : PostS K cl W fr G H σ ρ o D) : PostS K cl W fr G1 H1 σ1 ρ1 o D := by
  cases o with
  | stuck => exact h
  | nx ρ' => exact fun σ' G' H' b S' => h σ' G' H' (a.trans S b) S'
  | bk ρ' => exact fun σ' G' H' b S' => h σ' G' H' (a.trans S b) S'
  | ct ρ' => exact fun σ' G' H' b S' => h σ' G' H' (a.trans S b) S'
  | rt d ρ' => exact PostR.on a S h
  | exc x ρ' => exact fun c dx σ' G' H' b S' r => h c dx σ' G' H' (a.trans S b) S' r
theorem PostS.seq {o : SRes} {f : Env → SRes} {D D1 : Ends} (h : PostS K cl W fr G H σ ρ (o.then f) D) (hr : D1.rt = D.rt) (hb : D1.bk = D.bk) (hc : D1.ct = D.ct)
    (k : ∀ ρ' σ' G' H', o = .nx ρ' → Stp G H σ ρ G' H' σ' ρ' → Sr K cl G' H' σ' ρ' → PostS K cl W fr G' H' σ' ρ' (f ρ') D → D1.nx σ' H') : PostS K cl W fr G H σ ρ o D1 := by
  cases o with
  | stuck => exact h
  | nx ρ' => exact fun σ' G' H' b S' => k ρ' σ' G' H' rfl b S' (PostS.on b S' h)
  | bk ρ' => intro σ' G' H' b S'; rw [hb]; exact h σ' G' H' b S'
  | ct ρ' => intro σ' G' H' b S'; rw [hc]; exact h σ' G' H' b S'
  | rt d ρ' => show PostR K cl fr G H σ ρ d ρ' D1.rt; rw [hr]; exact h
  | exc x ρ' => exact h
theorem PostS.val {o : Res D} {f : D → Env → SRes} {E : Ends} {Q : VK} (h : PostS K cl W fr G H σ ρ (o.fin f) E)
    (k : ∀ d v ρ' G' H', Stp G H σ ρ G' H' σ ρ' → Sr K cl G' H' σ ρ' → R K cl G' v d → PostS K cl W fr G H σ ρ (f d ρ') E → Q v H') : PostE K cl W G H σ ρ o Q := by
  cases o with
  | stuck => exact h
  | exc x ρ' => exact fun c dx G' H' b S' r => h c dx σ G' H' b S' r
  | ok d ρ' => exact fun v G' H' b S' r => k d v ρ' G' H' b S' r h
theorem PostS.valF {o : Res D} {f : D → Env → SRes} {E : Ends} {Q : VK} (h : PostS K cl W fr G H σ ρ (o.fin f) E)
    (k : ∀ d p ρ' G' H', Stp G H σ ρ G' H' σ ρ' → Sr K cl G' H' σ ρ' → (H p = none ∨ OwnedW σ ρ p) → ¬ Owned σ ρ' p → G' p = none → Top K cl G' H' p d → PostS K cl W fr G H σ ρ (f d ρ') E → Q (.ref p) H') : PostF K cl W G H σ ρ o Q := by
  cases o with
  | stuck => exact h
  | exc x ρ' => exact fun c dx G' H' b S' r => h c dx σ G' H' b S' r
  | ok d ρ' => exact fun p G' H' b S' hp ho hn r => k d p ρ' G' H' b S' hp ho hn r h
theorem PostS.valB {o : Res Bool} {f : Bool → Env → SRes} {E : Ends} {Q : Bool → Hp → Prop} (h : PostS K cl W fr G H σ ρ (o.fin f) E)
    (k : ∀ d ρ' G' H', Stp G H σ ρ G' H' σ ρ' → Sr K cl G' H' σ ρ' → PostS K cl W fr G H σ ρ (f d ρ') E → Q d H') : PostEB K cl W G H σ ρ o Q := by
  cases o with
  | stuck => exact h
  | exc x ρ' => exact fun c dx G' H' b S' r => h c dx σ G' H' b S' r
  | ok d ρ' => exact fun G' H' b S' => k d ρ' G' H' b S' h

/-! slots set -/
def isIo : Option Cell → Bool
  | some (.io _) => true
  | none => true
  | _ => false
def setC (ρ : Env) (i : Nat) (c : Cell) : Option Env := if isIo ρ[i]? = true then none else some (ρ.set i c)
theorem setC_some {ρ ρ' : Env} {i : Nat} {c : Cell} (h : setC ρ i c = some ρ') : ρ' = ρ.set i c ∧ i < ρ.length ∧ ∀ d, ρ[i]? ≠ some (.io d) := by
  unfold setC at h
  split at h
  · cases h
  · rename_i hn
    cases h
    refine ⟨rfl, ?_, fun d q => hn (by rw [q]; rfl)⟩
    cases q : ρ[i]? with
    | none => exact absurd (by rw [q]; rfl) hn
    | some c => exact (List.getElem?_eq_some_iff.mp q).1
theorem set_get {α : Type} {l : List α} {i j : Nat} {x : α} (h : i < l.length) : (l.set i x)[j]? = if j = i then some x else l[j]? := by
  by_cases hj : j = i
  · subst hj; rw [if_pos rfl, List.getElem?_set_self h]
  · rw [if_neg hj, List.getElem?_set_ne (Ne.symm hj)]
theorem setSh_ok {v : V} {d : D} {i : Nat} (st : Stp G H σ ρ G1 H1 σ1 ρ1) (S : Sr K cl G1 H1 σ1 ρ1) (r : R K cl G1 v d) (h : setC ρ1 i (.sh d) = some ρ2) :
    Stp G H σ ρ G1 H1 (σ1.set i (some v)) ρ2 ∧ Sr K cl G1 H1 (σ1.set i (some v)) ρ2 := by
  obtain ⟨rfl, hl, hn⟩ := setC_some h
  have hs : i < σ1.length := by rw [← S.len]; exact hl
  have own : ∀ {j : Nat} {e : D}, (ρ1.set i (.sh d))[j]? = some (.ow e) ∨ (ρ1.set i (.sh d))[j]? = some (.io e) → j ≠ i ∧ (ρ1[j]? = some (.ow e) ∨ ρ1[j]? = some (.io e)) := fun {j e} q => by
    rw [set_get hl] at q
    by_cases hj : j = i
    · rw [if_pos hj] at q; rcases q with q | q <;> cases q
    · rw [if_neg hj] at q; exact ⟨hj, q⟩
  refine ⟨⟨st.g, st.gf, st.fr, fun b ⟨j, e, h1, h2⟩ => ?_, fun j e q => ?_, fun j e q => ?_, by rw [List.length_set]; exact st.len⟩, S.s, by rw [List.length_set, List.length_set]; exact S.len, fun j e q => ?_, fun j e q => ?_, fun j k e f a q1 q2 q3 q4 => ?_⟩
  · rw [set_get hl] at h1
    by_cases hj : j = i
    · rw [if_pos hj] at h1; cases h1
    · rw [if_neg hj] at h1
      rw [set_get hs, if_neg hj] at h2
      exact st.nw b ⟨j, e, h1, h2⟩
  · obtain ⟨⟨d', e1⟩, e2⟩ := st.io j e q
    have hj : j ≠ i := by rintro rfl; exact hn d' e1
    rw [set_get hl, if_neg hj, set_get hs, if_neg hj]
    exact ⟨⟨d', e1⟩, e2⟩
  · rw [set_get hl] at q
    by_cases hj : j = i
    · rw [if_pos hj] at q; cases q
    · rw [if_neg hj] at q; exact st.oi j e q
  · rw [set_get hl] at q
    by_cases hj : j = i
    · rw [if_pos hj] at q
      cases q
      exact ⟨v, by rw [set_get hs, if_pos hj], r⟩
    · rw [if_neg hj] at q
      rw [set_get hs, if_neg hj]
      exact S.sh j e q
  · obtain ⟨hj, q⟩ := own q
    rw [set_get hs, if_neg hj]
    exact S.own j e q
  · obtain ⟨hj, q1⟩ := own q1
    obtain ⟨hk, q2⟩ := own q2
    rw [set_get hs, if_neg hj] at q3
    rw [set_get hs, if_neg hk] at q4
    exact S.inj j k e f a q1 q2 q3 q4
theorem setOw_ok {p : Addr} {d : D} {i : Nat} (st : Stp G H σ ρ G1 H1 σ1 ρ1) (S : Sr K cl G1 H1 σ1 ρ1) (hp : H p = none ∨ OwnedW σ ρ p) (ho : ¬ Owned σ1 ρ1 p) (hg : G1 p = none) (t : Top K cl G1 H1 p d) (h : setC ρ1 i (.ow d) = some ρ2) :
    Stp G H σ ρ G1 H1 (σ1.set i (some (.ref p))) ρ2 ∧ Sr K cl G1 H1 (σ1.set i (some (.ref p))) ρ2 := by
  obtain ⟨rfl, hl, hn⟩ := setC_some h
  have hs : i < σ1.length := by rw [← S.len]; exact hl
  have old : ∀ {j : Nat} {e : D}, j ≠ i → (ρ1.set i (.ow d))[j]? = some (.ow e) ∨ (ρ1.set i (.ow d))[j]? = some (.io e) → (ρ1[j]? = some (.ow e) ∨ ρ1[j]? = some (.io e)) := fun {j e} hj q => by
    rw [set_get hl, if_neg hj] at q; exact q
  have np : ∀ {j : Nat} {e : D}, j ≠ i → (ρ1.set i (.ow d))[j]? = some (.ow e) ∨ (ρ1.set i (.ow d))[j]? = some (.io e) → (σ1.set i (some (.ref p)))[j]? = some (some (.ref p)) → False := fun {j e} hj q q2 => by
    rw [set_get hs, if_neg hj] at q2
    rcases old hj q with q | q
    · exact ho (.inl ⟨j, e, q, q2⟩)
    · exact ho (.inr ⟨j, e, q, q2⟩)
  refine ⟨⟨st.g, st.gf, st.fr, fun b ⟨j, e, h1, h2⟩ => ?_, fun j e q => ?_, fun j e q => ?_, by rw [List.length_set]; exact st.len⟩, S.s, by rw [List.length_set, List.length_set]; exact S.len, fun j e q => ?_, fun j e q => ?_, fun j k e f a q1 q2 q3 q4 => ?_⟩
  · by_cases hj : j = i
    · rw [set_get hs, if_pos hj] at h2
      cases h2
      exact hp
    · rw [set_get hl, if_neg hj] at h1
      rw [set_get hs, if_neg hj] at h2
      exact st.nw b ⟨j, e, h1, h2⟩
  · obtain ⟨⟨d', e1⟩, e2⟩ := st.io j e q
    have hj : j ≠ i := by rintro rfl; exact hn d' e1
    rw [set_get hl, if_neg hj, set_get hs, if_neg hj]
    exact ⟨⟨d', e1⟩, e2⟩
  · rw [set_get hl] at q
    by_cases hj : j = i
    · rw [if_pos hj] at q; cases q
    · rw [if_neg hj] at q; exact st.oi j e q
  · rw [set_get hl] at q
    by_cases hj : j = i
    · rw [if_pos hj] at q; cases q
    · rw [if_neg hj] at q
      rw [set_get hs, if_neg hj]
      exact S.sh j e q
  · by_cases hj : j = i
    · rw [set_get hl, if_pos hj] at q
      rcases q with q | q
      · cases q
        exact ⟨p, by rw [set_get hs, if_pos hj], hg, t⟩
      · cases q
    · rw [set_get hs, if_neg hj]
      exact S.own j e (old hj q)
  · by_cases hj : j = i
    · by_cases hk : k = i
      · rw [hj, hk]
      · rw [set_get hs, if_pos hj] at q3
        cases q3
        exact (np hk q2 q4).elim
    · by_cases hk : k = i
      · rw [set_get hs, if_pos hk] at q4
        cases q4
        exact (np hj q1 q3).elim
      · rw [set_get hs, if_neg hj] at q3
        rw [set_get hs, if_neg hk] at q4
        exact S.inj j k e f a (old hj q1) (old hk q2) q3 q4
/-- a slot's object is let go -/
theorem drop_ok {d : D} {i : Nat} (S : Sr K cl G H σ ρ) (h : ρ[i]? = some (.ow d)) : ∃ p, σ[i]? = some (some (.ref p)) ∧ OwnedW σ ρ p ∧ ¬ Owned σ (ρ.set i .no) p ∧ G p = none ∧ Top K cl G H p d ∧ Stp G H σ ρ G H σ (ρ.set i .no) ∧ Sr K cl G H σ (ρ.set i .no) := by
  obtain ⟨p, e, n, t⟩ := S.own i d (.inl h)
  have hl : i < ρ.length := (List.getElem?_eq_some_iff.mp h).1
  have old : ∀ {j : Nat} {c : Cell}, c ≠ .no → (ρ.set i .no)[j]? = some c → j ≠ i ∧ ρ[j]? = some c := fun {j c} hc q => by
    rw [set_get hl] at q
    by_cases hj : j = i
    · rw [if_pos hj] at q; cases q; exact absurd rfl hc
    · rw [if_neg hj] at q; exact ⟨hj, q⟩
  have old2 : ∀ {j : Nat} {e : D}, (ρ.set i .no)[j]? = some (.ow e) ∨ (ρ.set i .no)[j]? = some (.io e) → j ≠ i ∧ (ρ[j]? = some (.ow e) ∨ ρ[j]? = some (.io e)) := fun {j e} q => by
    rcases q with q | q
    · exact ⟨(old (by simp) q).1, .inl (old (by simp) q).2⟩
    · exact ⟨(old (by simp) q).1, .inr (old (by simp) q).2⟩
  refine ⟨p, e, ⟨i, d, h, e⟩, fun z => ?_, n, t, ⟨.refl _, fun _ a b => absurd a b, fun _ _ q _ => q, fun b ⟨j, e', q1, q2⟩ => .inr ⟨j, e', (old (by simp) q1).2, q2⟩, fun j e' q => ⟨⟨e', ?_⟩, rfl⟩, fun j e' q => ⟨e', (old (by simp) q).2⟩, rfl⟩,
    S.s, by rw [List.length_set]; exact S.len, fun j e' q => S.sh j e' (old (by simp) q).2, fun j e' q => S.own j e' (old2 q).2, fun j k e1 e2 a q1 q2 => S.inj j k e1 e2 a (old2 q1).2 (old2 q2).2⟩
  · rcases z with ⟨j, e', q1, q2⟩ | ⟨j, e', q1, q2⟩
    · obtain ⟨hj, q⟩ := old (by simp) q1
      exact hj (S.inj j i e' d p (.inl q) (.inl h) q2 e)
    · obtain ⟨hj, q⟩ := old (by simp) q1
      exact hj (S.inj j i e' d p (.inr q) (.inl h) q2 e)
  · have hj : j ≠ i := by rintro rfl; rw [h] at q; cases q
    rw [set_get hl, if_neg hj]; exact q
end

/-! ### rules -/
def orStuck (o : Option Env) (f : Env → SRes) : SRes := match o with
  | some ρ => f ρ
  | none => .stuck
@[simp] theorem orStuck_some (ρ : Env) (f : Env → SRes) : orStuck (some ρ) f = f ρ := id rfl
theorem PostS.orS {K : PySem.W.Frag} {cl : Nat → Addr} {W : WX} {fr : Bool} {G H : Hp} {σ : Sl} {ρ : Env} {o : Option Env} {f : Env → SRes} {D : Ends} (h : PostS K cl W fr G H σ ρ (orStuck o f) D) : ∃ ρ', o = some ρ' ∧ PostS K cl W fr G H σ ρ (f ρ') D := by
  cases o with
  | none => exact h.elim
  | some ρ' => exact ⟨ρ', rfl, h⟩
section
variable {X : Cx} {cl : Nat → Addr} {W : WX} {fr : Bool} {e c : Expr} {st : Stmt} {rest as bs : List Stmt} {m : Env → Res D} {mb : Env → Res Bool} {ms mr : Env → SRes} {pos pos' : Pos}
theorem dss_nil : DSs X cl W fr [] .nx := ⟨_, pss_nil, fun G H σ ρ D S h => h σ G H .refl S⟩
theorem dss_one (h : DS X cl W fr st ms) : DSs X cl W fr [st] ms := let ⟨t, p, k⟩ := h.ex; ⟨t, pss_one p, k⟩
theorem dss_cons (h : DS X cl W fr st ms) (hr : DSs X cl W fr rest mr) : DSs X cl W fr (st :: rest) (fun ρ => (ms ρ).then mr) := by
  obtain ⟨t, p, k⟩ := h.ex
  obtain ⟨u, p2, k2⟩ := hr.ex
  refine ⟨_, pss_cons p p2, fun G H σ ρ D S h => k G H σ ρ _ S (h.seq rfl rfl rfl fun ρ' σ' G' H' _ b S' h' => k2 G' H' σ' ρ' D S' h')⟩
theorem ds_pass : DS X cl W fr (.Pass pos) .nx := ⟨_, ps_pass, fun G H σ ρ D S h => h σ G H .refl S⟩
theorem ds_break : DS X cl W fr (.Break pos) .bk := ⟨_, ps_break, fun G H σ ρ D S h => h σ G H .refl S⟩
theorem ds_continue : DS X cl W fr (.Continue pos) .ct := ⟨_, ps_continue, fun G H σ ρ D S h => h σ G H .refl S⟩
theorem ds_never : DS X cl W fr st (fun _ => .stuck) := ⟨_, ps_never, fun G H σ ρ D S h => h⟩
theorem dss_never : DSs X cl W fr rest (fun _ => .stuck) := ⟨_, pss_never, fun G H σ ρ D S h => h⟩
/-- x = e -/
theorem ds_set (i : Nat) {x : Str} (hN : X.N.Nodup) (he : DE X cl W e m) (hi : X.N[i]? = some x := by rfl) (hx : Loc X.env.scope x := by first | exact Or.inl rfl | exact Or.inr rfl) (hs : swapsWith e (some (.Name x pos')) pos.line X.env = pure false := by rfl) (hf : X.fn x = true ∨ X.env.scope.names.lookup x = some .local := by first | exact .inl rfl | exact .inr rfl) :
    DS X cl W fr (.Assign [.Name x pos'] e pos) (fun ρ => (m ρ).fin fun d ρ => orStuck (setC ρ i (.sh d)) .nx) := by
  obtain ⟨t, p, k⟩ := he.ex
  refine ⟨_, ps_set hN hi hx p hs hf, fun G H σ ρ D S h => k G H σ ρ _ S (h.val fun d v ρ' G' H' b S' r h' => ?_)⟩
  obtain ⟨ρ2, q, h2⟩ := PostS.orS h'
  obtain ⟨s2, S2⟩ := setSh_ok b S' r q
  exact h2 _ G' H' s2 S2
/-- x = e, a new object that x alone knows -/
theorem ds_setF (i : Nat) {x : Str} (hN : X.N.Nodup) (he : DF X cl W e m) (hi : X.N[i]? = some x := by rfl) (hx : Loc X.env.scope x := by first | exact Or.inl rfl | exact Or.inr rfl) (hs : swapsWith e (some (.Name x pos')) pos.line X.env = pure false := by rfl) (hf : X.fn x = true ∨ X.env.scope.names.lookup x = some .local := by first | exact .inl rfl | exact .inr rfl) :
    DS X cl W fr (.Assign [.Name x pos'] e pos) (fun ρ => (m ρ).fin fun d ρ => orStuck (setC ρ i (.ow d)) .nx) := by
  obtain ⟨t, p, k⟩ := he.ex
  refine ⟨_, ps_set hN hi hx p hs hf, fun G H σ ρ D S h => k G H σ ρ _ S (h.valF fun d q ρ' G' H' b S' hp ho hn r h' => ?_)⟩
  obtain ⟨ρ2, q, h2⟩ := PostS.orS h'
  obtain ⟨s2, S2⟩ := setOw_ok b S' hp ho hn r q
  exact h2 _ G' H' s2 S2
theorem ds_expr (he : DE X cl W e m) (hs : swapsWith e none pos.line X.env = pure false := by rfl) : DS X cl W fr (.Expr e pos) (fun ρ => (m ρ).fin fun _ ρ => .nx ρ) := by
  obtain ⟨t, p, k⟩ := he.ex
  exact ⟨_, ps_expr p hs, fun G H σ ρ D S h => k G H σ ρ _ S (h.val fun d v ρ' G' H' b S' r h' => h' σ G' H' b S')⟩
theorem ds_ret (he : DE X cl W e m) : DS X cl W false (.Return (some e) pos) (fun ρ => (m ρ).fin fun d ρ => .rt d ρ) := by
  obtain ⟨t, p, k⟩ := he.ex
  exact ⟨_, ps_ret p, fun G H σ ρ D S h => k G H σ ρ _ S (h.val fun d v ρ' G' H' b S' r h' => h' v σ G' H' b S' r)⟩
theorem ds_retN : DS X cl W false (.Return none pos) (fun ρ => .rt .non ρ) := ⟨_, ps_retN, fun G H σ ρ D S h => h .non σ G H .refl S .non⟩
/-- return e, a new object -/
theorem ds_retF (he : DF X cl W e m) : DS X cl W true (.Return (some e) pos) (fun ρ => (m ρ).fin fun d ρ => .rt d ρ) := by
  obtain ⟨t, p, k⟩ := he.ex
  exact ⟨_, ps_ret p, fun G H σ ρ D S h => k G H σ ρ _ S (h.valF fun d q ρ' G' H' b S' hp ho hn r h' => h' q σ G' H' b S' hp ho hn r)⟩
/-- return x, x's own object -/
def retC (i : Nat) (ρ : Env) : SRes := match ρ[i]? with
  | some (.ow d) => .rt d (ρ.set i .no)
  | _ => .stuck
theorem ds_retOw (i : Nat) {x : Str} (hN : X.N[i]? = some x := by rfl) (hv : Vis X.env.scope x := by first | exact Or.inl rfl | exact Or.inr (Or.inl rfl) | exact Or.inr (Or.inr rfl)) (hd : (x == ("__debug__" : Str)) = false := by decide)
    (hcd : (x == ("__classdict__" : Str)) = false := by decide) : DS X cl W true (.Return (some (.Name x pos')) pos) (retC i) := by
  refine ⟨_, ps_ret (pe_var hN hv hd hcd), fun G H σ ρ D S h => ?_⟩
  unfold retC at h
  cases q : ρ[i]? with
  | none => rw [q] at h; exact h.elim
  | some c =>
    rw [q] at h
    cases c <;> try exact h.elim
    rename_i d
    obtain ⟨p, e, hw, ho, hn, t, s2, S2⟩ := drop_ok S q
    exact ⟨_, e, h p σ G H s2 S2 (.inr hw) ho hn t⟩
theorem ds_if (hc : DB X cl W c mb) (ha : DSs X cl W fr as ms) (hb : DSs X cl W fr bs mr) : DS X cl W fr (.If c as bs pos) (fun ρ => (mb ρ).fin fun b ρ => if b = true then ms ρ else mr ρ) := by
  obtain ⟨t, p, k⟩ := hc.ex
  obtain ⟨u, p2, k2⟩ := ha.ex
  obtain ⟨v, p3, k3⟩ := hb.ex
  refine ⟨_, ps_if p p2 p3, fun G H σ ρ D S h => k G H σ ρ _ S (h.valB fun b ρ' G' H' s2 S' h' => ?_)⟩
  cases b with
  | true => exact k2 G' H' σ ρ' D S' (PostS.on s2 S' h')
  | false => exact k3 G' H' σ ρ' D S' (PostS.on s2 S' h')

/-! targets -/
structure DGC (X : Cx) (cl : Nat → Addr) (tg : Expr) (f : D → Env → Option Env) : Prop where
  ex : ∃ g : TG, PG X tg g ∧ ∀ (G H : Hp) (σ : Sl) (ρ : Env) (v : V) (d : D) (Q : Sl → Hp → Prop), Sr X.K cl G H σ ρ → R X.K cl G v d →
    (∃ ρ', f d ρ = some ρ' ∧ ∀ σ', Stp G H σ ρ G H σ' ρ' → Sr X.K cl G H σ' ρ' → Q σ' H) → g v σ H Q
structure DGCs (X : Cx) (cl : Nat → Addr) (tgs : List Expr) (f : List D → Env → Option Env) : Prop where
  ex : ∃ g : TGs, PGs X tgs g ∧ ∀ (G H : Hp) (σ : Sl) (ρ : Env) (vs : List V) (ds : List D) (Q : Sl → Hp → Prop), Sr X.K cl G H σ ρ → RL X.K cl G vs ds →
    (∃ ρ', f ds ρ = some ρ' ∧ ∀ σ', Stp G H σ ρ G H σ' ρ' → Sr X.K cl G H σ' ρ' → Q σ' H) → g vs σ H Q
variable {tg : Expr} {tgs : List Expr} {f : D → Env → Option Env} {g : List D → Env → Option Env}
theorem dgc_name (i : Nat) {x : Str} (hN : X.N.Nodup) (hi : X.N[i]? = some x := by rfl) (hx : Loc X.env.scope x := by first | exact Or.inl rfl | exact Or.inr rfl) (hf : X.fn x = true ∨ X.env.scope.names.lookup x = some .local := by first | exact .inl rfl | exact .inr rfl) :
    DGC X cl (.Name x pos) (fun d ρ => setC ρ i (.sh d)) :=
  ⟨_, pg_name hN hi hx hf, fun G H σ ρ v d Q S r ⟨ρ', q, h⟩ => let ⟨s2, S2⟩ := setSh_ok .refl S r q; h _ s2 S2⟩
theorem dgcs_nil : DGCs X cl [] (fun ds ρ => match ds with | [] => some ρ | _ => none) :=
  ⟨_, pgs_nil, fun G H σ ρ vs ds Q S r ⟨ρ', q, h⟩ => by
    cases r with
    | nil => cases q; exact ⟨rfl, h σ .refl S⟩
    | cons _ _ => cases q⟩
theorem dgcs_cons (h1 : DGC X cl tg f) (h2 : DGCs X cl tgs g) (hs : (assignEach (tg :: tgs) X.env).map (·.2) = assign tg X.env :: (assignEach tgs X.env).map (·.2) := by rfl) :
    DGCs X cl (tg :: tgs) (fun ds ρ => match ds with | d :: ds => (f d ρ).bind fun ρ => g ds ρ | [] => none) := by
  obtain ⟨t, p, k⟩ := h1.ex
  obtain ⟨u, p2, k2⟩ := h2.ex
  refine ⟨_, pgs_cons p p2 hs, fun G H σ ρ vs ds Q S r ⟨ρ', q, h⟩ => ?_⟩
  cases r with
  | nil => cases q
  | @cons v vs d ds r1 r2 =>
    have q' : (f d ρ).bind (fun ρ => g ds ρ) = some ρ' := q
    obtain ⟨ρ1, q1, q2⟩ := Option.bind_eq_some_iff.mp q'
    exact ⟨v, vs, rfl, k G H σ ρ v d _ S r1 ⟨ρ1, q1, fun σ1 s1 S1 => k2 G H σ1 ρ1 vs ds Q S1 r2 ⟨ρ', q2, fun σ2 s2 S2 => h σ2 (s1.trans S1 s2) S2⟩⟩⟩
theorem dgc_tup {es : List Expr} {k : Nat} {n : Nat} (hc : X.calm = true) (h : DGCs X cl es g) (hn : (assignEach es X.env).length = n := by rfl) (hst : (assignEach es X.env).findIdx? (·.1) = none := by rfl) :
    DGC X cl (.Tuple es k pos) (fun d ρ => match d with | .tup ds => if ds.length = n then g ds ρ else none | _ => none) := by
  obtain ⟨t, p, kk⟩ := h.ex
  refine ⟨_, pg_tup hc p hn hst, fun G H σ ρ v d Q S r ⟨ρ', q, h⟩ => ?_⟩
  cases d <;> try cases q
  rename_i ds _
  obtain ⟨a, xs, rfl, h1, r1, _⟩ := r.toTup
  have q' : (if ds.length = n then g ds ρ else none) = some ρ' := q
  split at q'
  · rename_i hl
    exact ⟨a, xs, rfl, S.s.sqT h1, by rw [r1.length]; exact hl, kk G H σ ρ xs ds Q S r1 ⟨ρ', q', h⟩⟩
  · cases q'
theorem dgc_unl {es : List Expr} {k : Nat} {n : Nat} (hc : X.calm = true) (h : DGCs X cl es g) (hn : (assignEach es X.env).length = n := by rfl) (hst : (assignEach es X.env).findIdx? (·.1) = none := by rfl) :
    DGC X cl (.Tuple es k pos) (fun d ρ => match d with | .lst ds => if ds.length = n then g ds ρ else none | _ => none) := by
  obtain ⟨t, p, kk⟩ := h.ex
  refine ⟨_, pg_unl hc p hn hst, fun G H σ ρ v d Q S r ⟨ρ', q, h⟩ => ?_⟩
  cases d <;> try cases q
  rename_i ds _
  obtain ⟨a, xs, rfl, h1, r1⟩ := r.toLst
  have q' : (if ds.length = n then g ds ρ else none) = some ρ' := q
  split at q'
  · rename_i hl
    exact ⟨a, xs, rfl, seq_of S.s h1, by rw [r1.length]; exact hl, kk G H σ ρ xs ds Q S r1 ⟨ρ', q', h⟩⟩
  · cases q'
/-- a, b = e -/
theorem ds_asg (hg : DGC X cl tg f) (he : DE X cl W e m) (hs : swapsWithSole [tg] e pos.line X.env = pure false := by rfl) (hw : swappedStores [tg] e X.env = pure none := by rfl)
    (h1 : (assignEach [tg] X.env).map (·.2) = [assign tg X.env] := by rfl) : DS X cl W fr (.Assign [tg] e pos) (fun ρ => (m ρ).fin fun d ρ => orStuck (f d ρ) .nx) := by
  obtain ⟨t, p, k⟩ := he.ex
  obtain ⟨u, p2, k2⟩ := hg.ex
  refine ⟨_, ps_asg p p2 hs hw h1, fun G H σ ρ D S h => k G H σ ρ _ S (h.val fun d v ρ' G' H' b S' r h' => ?_)⟩
  obtain ⟨ρ2, q, h2⟩ := PostS.orS h'
  exact k2 G' H' σ ρ' v d _ S' r ⟨ρ2, q, fun σ' s2 S2 => h2 σ' G' H' (b.trans S' s2) S2⟩

/-! loops -/
def PostEI (K : PySem.W.Frag) (cl : Nat → Addr) (W : WX) (G H : Hp) (σ : Sl) (ρ : Env) (o : Res (List D)) (R' : It → Hp → Prop) : Prop := match o with
  | .stuck => False
  | .ok ds ρ' => ∀ J G' H', Stp G H σ ρ G' H' σ ρ' → Sr K cl G' H' σ ρ' → Walk K cl J G' ds → R' J H'
  | .exc x ρ' => ∀ c dx G' H', Stp G H σ ρ G' H' σ ρ' → Sr K cl G' H' σ ρ' → RX K cl G' H' c dx x → W c dx σ H'
structure DIE (X : Cx) (cl : Nat → Addr) (W : WX) (tg iter : Expr) (m : Env → Res (List D)) : Prop where
  ex : ∃ wi : TI, PI X tg iter wi ∧ ∀ (G H : Hp) (σ : Sl) (ρ : Env) (R' : It → Hp → Prop), Sr X.K cl G H σ ρ → PostEI X.K cl W G H σ ρ (m ρ) R' → wi σ H R'
variable {iter : Expr} {mi : PEnv → Out (List D)} {mie : Env → Res (List D)}
def frzI (T : List Nat) (m : PEnv → Out (List D)) (ρ : Env) : Res (List D) := match m (viewS (frz T ρ)) with
  | .ok d => .ok d (frz T ρ)
  | .exc x => .exc x (frz T ρ)
  | .stuck => .stuck
theorem die_frz (T : List Nat) (h : DI X cl W tg iter mi) : DIE X cl W tg iter (frzI T mi) := by
  obtain ⟨t, p, k⟩ := h.ex
  refine ⟨t, p, fun G H σ ρ Q S h => ?_⟩
  obtain ⟨G1, st, S1⟩ := frz_ok T S
  refine k G1 H σ (viewS (frz T ρ)) Q S1.s S1.viewS ?_
  unfold frzI at h
  cases q : mi (viewS (frz T ρ)) with
  | stuck => rw [q] at h; exact h
  | ok d =>
    rw [q] at h
    intro J G' H' x w
    obtain ⟨s2, S2⟩ := Stp.pure S1 x
    exact h J G' H' (st.trans S1 s2) S2 w
  | exc y =>
    rw [q] at h
    intro c dx G' H' x r
    obtain ⟨s2, S2⟩ := Stp.pure S1 x
    exact h c dx G' H' (st.trans S1 s2) S2 r
/-- over a range and its like: all slots are seen, the items are numbers -/
def flatI (m : PEnv → Out (List D)) (ρ : Env) : Res (List D) := match m (viewA ρ) with
  | .ok ds => .ok ds ρ
  | .exc x => if scalar x.d = true then .exc x ρ else .stuck
  | .stuck => .stuck
theorem die_range1 {a : Expr} {p : Pos} {ml : PEnv → Out (List D)} (hm : X.mg "range" = none) (ha : DA X cl W [a] ml) (hg : Gl X "range" := by rfl) (hs : starEach [a] X.env = [(false, eval a X.env)] := by rfl) :
    DIE X cl W tg (.Call (.Name "range" p) [a] [] pos) (flatI fun ρ => (ml ρ).bind rng1) := by
  obtain ⟨t, pa, k⟩ := ha.ex
  refine ⟨_, pi_range1 hg hm pa hs, fun G H σ ρ Q S h => k H H σ (viewA ρ) _ (.refl _) S.viewA ?_⟩
  unfold flatI at h
  simp only [] at h
  cases q : ml (viewA ρ) with
  | stuck => rw [q] at h; exact h
  | exc y =>
    rw [q] at h
    intro c dx G' H' x r
    by_cases hd : scalar y.d = true
    · simp only [Out.bind_exc, hd, if_true] at h
      obtain ⟨st, S'⟩ := S.grow x.h
      exact h c dx G H' st S' (RX.scal hd r)
    · simp only [Out.bind_exc, hd, if_false] at h
      exact h.elim
  | ok ds =>
    rw [q] at h
    intro vs G' H' x r
    obtain ⟨st, S'⟩ := S.grow x.h
    rw [Out.bind_ok] at h
    cases r with
    | nil => exact h.elim
    | cons r1 r2 =>
      cases r2 with
      | cons _ _ => cases r1 <;> exact h.elim
      | nil =>
        cases r1 <;> try exact h.elim
        rename_i j
        by_cases hc : -(2 ^ 62) ≤ j ∧ j < 2 ^ 62
        · have e : rng1 [.int j] = .ok (rangeD 0 j.toNat) := by
            show guard (decide _) _ = _
            rw [decide_eq_true hc]; rfl
          rw [e] at h
          exact ⟨j, rfl, hc.1, hc.2, h _ G H' st S' (walk_range _ _)⟩
        · have e : rng1 [.int j] = .stuck := by
            show guard (decide _) _ = _
            rw [decide_eq_false hc]; rfl
          rw [e] at h
          exact h.elim
theorem die_range2 {a b : Expr} {p : Pos} {ml : PEnv → Out (List D)} (hm : X.mg "range" = none) (ha : DA X cl W [a, b] ml) (hg : Gl X "range" := by rfl) (hs : starEach [a, b] X.env = [(false, eval a X.env), (false, eval b X.env)] := by rfl) (hs2 : starEach [b] X.env = [(false, eval b X.env)] := by rfl) :
    DIE X cl W tg (.Call (.Name "range" p) [a, b] [] pos) (flatI fun ρ => (ml ρ).bind rng2) := by
  obtain ⟨t, pa, k⟩ := ha.ex
  refine ⟨_, pi_range2 hg hm pa hs hs2, fun G H σ ρ Q S h => k H H σ (viewA ρ) _ (.refl _) S.viewA ?_⟩
  unfold flatI at h
  simp only [] at h
  cases q : ml (viewA ρ) with
  | stuck => rw [q] at h; exact h
  | exc y =>
    rw [q] at h
    intro c dx G' H' x r
    by_cases hd : scalar y.d = true
    · simp only [Out.bind_exc, hd, if_true] at h
      obtain ⟨st, S'⟩ := S.grow x.h
      exact h c dx G H' st S' (RX.scal hd r)
    · simp only [Out.bind_exc, hd, if_false] at h
      exact h.elim
  | ok ds =>
    rw [q] at h
    intro vs G' H' x r
    obtain ⟨st, S'⟩ := S.grow x.h
    rw [Out.bind_ok] at h
    cases r with
    | nil => exact h.elim
    | cons r1 r2 =>
      cases r2 with
      | nil => cases r1 <;> exact h.elim
      | cons r2 r3 =>
        cases r3 with
        | cons _ _ => cases r1 <;> cases r2 <;> exact h.elim
        | nil =>
          cases r1 <;> cases r2 <;> try exact h.elim
          rename_i i j
          by_cases hc : -(2 ^ 62) ≤ i ∧ i < 2 ^ 62 ∧ -(2 ^ 62) ≤ j ∧ j < 2 ^ 62
          · have e : rng2 [.int i, .int j] = .ok (rangeD i (j - i).toNat) := by
              show guard (decide _) _ = _
              rw [decide_eq_true hc]; rfl
            rw [e] at h
            exact ⟨i, j, rfl, hc, h _ G H' st S' (walk_range _ _)⟩
          · have e : rng2 [.int i, .int j] = .stuck := by
              show guard (decide _) _ = _
              rw [decide_eq_false hc]; rfl
            rw [e] at h
            exact h.elim
/-- over a list that an expression gives, whatever it changes -/
theorem die_list (h : DE X cl W e m) : DIE X cl W tg e (fun ρ => (m ρ).bind fun d ρ => match itemsL d with | .ok ds => .ok ds ρ | _ => .stuck) := by
  obtain ⟨t, p, k⟩ := h.ex
  refine ⟨_, pi_list p, fun G H σ ρ Q S h => k G H σ ρ _ S ?_⟩
  cases q : m ρ with
  | stuck => rw [q] at h; exact h
  | exc x ρ' => rw [q] at h; exact h
  | ok d ρ' =>
    rw [q] at h
    intro v G' H' st S' r
    rw [Res.bind_ok] at h
    cases d <;> try exact h.elim
    case lst ds =>
      obtain ⟨a, xs, rfl, h1, r1⟩ := r.toLst
      exact ⟨a, rfl, ⟨xs, seq_of S'.s h1⟩, h _ G' H' st S' (walk_list (fun H s => seq_of s h1) r1)⟩
    case scr ns =>
      obtain ⟨a, rfl, h1⟩ := r.toScr
      exact ⟨a, rfl, ⟨_, S'.s.seq h1⟩, h _ G' H' st S' (walk_list (fun H s => s.seq h1) (RL.ints ns))⟩
/-- the turns of a for -/
def forL (f : D → Env → Option Env) (body : Env → SRes) : List D → Env → SRes
  | [], ρ => .nx ρ
  | d :: ds, ρ => orStuck (f d ρ) fun ρ => match body ρ with
    | .nx ρ => forL f body ds ρ
    | .ct ρ => forL f body ds ρ
    | .bk ρ => .nx ρ
    | r => r
theorem ds_for (hp : PassesOwn (model X.prog X.w) X.A X.env X.xe) (hc : X.calm = true) (hi : DIE X cl W tg iter mie) (hg : DGC X cl tg f) (hb : DSs X cl W fr as ms) (hs : ∀ x, foldedSetIterable iter X.env x = pure x := by intro _; rfl) :
    DS X cl W fr (.For tg iter as [] pos) (fun ρ => (mie ρ).fin fun ds ρ => forL f ms ds ρ) := by
  obtain ⟨wi, p, k⟩ := hi.ex
  obtain ⟨u, p2, k2⟩ := hg.ex
  obtain ⟨v, p3, k3⟩ := hb.ex
  refine ⟨_, ps_for hp hc p p2 p3 hs, fun G H σ ρ D S h => k G H σ ρ _ S ?_⟩
  cases q : mie ρ with
  | stuck => rw [q] at h; exact h
  | exc x ρ' => rw [q] at h; exact fun c dx G' H' b S' r => h c dx σ G' H' b S' r
  | ok ds ρ0 =>
    rw [q] at h
    intro J G1 H1 s1 S1 wk
    have h1 : PostS X.K cl W fr G1 H1 σ ρ0 (forL f ms ds ρ0) D := PostS.on s1 S1 h
    refine ⟨fun i m σ' H' => i ≤ ds.length ∧ m = ds.length - i ∧ ∃ G' ρ', Same G1 G' ∧ Sr X.K cl G' H' σ' ρ' ∧ PostS X.K cl W fr G' H' σ' ρ' (forL f ms (ds.drop i) ρ') D, ⟨_, Nat.zero_le _, rfl, G1, ρ0, .refl _, S1, h1⟩, ?_⟩
    rintro i m σ' H' ⟨hi, rfl, G', ρ', g1, S', h2⟩
    by_cases hlt : i < ds.length
    · refine .inr ⟨wk.go i H' (g1.trans S'.s) hlt, fun σ2 H2 => i + 1 ≤ ds.length ∧ ∃ G2 ρ2, Same G1 G2 ∧ Sr X.K cl G2 H2 σ2 ρ2 ∧ PostS X.K cl W fr G2 H2 σ2 ρ2 (forL f ms (ds.drop (i + 1)) ρ2) D, fun σ2 H2 ⟨a1, a2⟩ => ⟨ds.length - (i + 1), by omega, a1, rfl, a2⟩, fun x H2 y => ?_⟩
      obtain ⟨G2, x2, rx⟩ := wk.yld i G' H' x H2 ds[i] g1 S'.s (List.getElem?_eq_getElem hlt) y
      obtain ⟨s2, S2⟩ := Stp.pure S' x2
      have hd : ds.drop i = ds[i] :: ds.drop (i + 1) := List.drop_eq_getElem_cons hlt
      rw [hd] at h2
      obtain ⟨ρ2, q2, h3⟩ := PostS.orS (show PostS X.K cl W fr G' H' σ' ρ' (orStuck (f ds[i] ρ') _) D from h2)
      refine k2 G2 H2 σ' ρ' x ds[i] _ S2 rx ⟨ρ2, q2, fun σ2 s3 S3 => ?_⟩
      have s4 := s2.trans S2 s3
      refine k3 G2 H2 σ2 ρ2 _ S3 ?_
      have h4 := PostS.on s4 S3 h3
      have gg : Same G1 G2 := g1.trans x2.g
      cases q5 : ms ρ2 with
      | stuck => rw [q5] at h4; exact h4
      | rt d ρ5 => rw [q5] at h4; exact h4
      | exc e5 ρ5 => rw [q5] at h4; exact h4
      | bk ρ5 => rw [q5] at h4; exact fun σ5 G5 H5 s5 S5 => h4 σ5 G5 H5 s5 S5
      | nx ρ5 => rw [q5] at h4; exact fun σ5 G5 H5 s5 S5 => ⟨hlt, G5, ρ5, gg.trans s5.g, S5, PostS.on s5 S5 h4⟩
      | ct ρ5 => rw [q5] at h4; exact fun σ5 G5 H5 s5 S5 => ⟨hlt, G5, ρ5, gg.trans s5.g, S5, PostS.on s5 S5 h4⟩
    · have hi' : i = ds.length := by omega
      subst hi'
      rw [List.drop_length] at h2
      exact .inl ⟨wk.stop _ H' (g1.trans S'.s) (Nat.le_refl _), h2 σ' G' H' .refl S'⟩
/-- the turns of a while, so many at most -/
def whileL (c : Env → Res Bool) (body : Env → SRes) : Nat → Env → SRes
  | 0, _ => .stuck
  | n + 1, ρ => (c ρ).fin fun b ρ => if b = true then (match body ρ with
    | .nx ρ => whileL c body n ρ
    | .ct ρ => whileL c body n ρ
    | .bk ρ => .nx ρ
    | r => r) else .nx ρ
theorem ds_while (fuel : Env → Nat) (hp : PassesOwn (model X.prog X.w) X.A X.env X.xe) (hc : DB X cl W c mb) (hb : DSs X cl W fr as ms) :
    DS X cl W fr (.While c as [] pos) (fun ρ => whileL mb ms (fuel ρ) ρ) := by
  obtain ⟨wi, p, k⟩ := hc.ex
  obtain ⟨v, p3, k3⟩ := hb.ex
  refine ⟨_, ps_while hp p p3, fun G H σ ρ D S h => ?_⟩
  refine ⟨fun m σ' H' => ∃ G' ρ', Sr X.K cl G' H' σ' ρ' ∧ PostS X.K cl W fr G' H' σ' ρ' (whileL mb ms m ρ') D, ⟨fuel ρ, G, ρ, S, h⟩, ?_⟩
  rintro m σ' H' ⟨G', ρ', S', h2⟩
  cases m with
  | zero => exact h2.elim
  | succ n =>
    refine k G' H' σ' ρ' _ S' (PostS.valB h2 fun b ρ2 G2 H2 s2 S2 h3 => ?_)
    cases b with
    | false => exact h3 σ' G2 H2 s2 S2
    | true =>
      rw [if_pos rfl]
      rw [if_pos rfl] at h3
      refine ⟨fun σ5 H5 => ∃ G5 ρ5, Sr X.K cl G5 H5 σ5 ρ5 ∧ PostS X.K cl W fr G5 H5 σ5 ρ5 (whileL mb ms n ρ5) D, fun σ5 H5 z => ⟨n, Nat.lt_succ_self n, z⟩, k3 G2 H2 σ' ρ2 _ S2 ?_⟩
      have h4 := PostS.on s2 S2 h3
      cases q5 : ms ρ2 with
      | stuck => rw [q5] at h4; exact h4
      | rt d ρ5 => rw [q5] at h4; exact h4
      | exc e5 ρ5 => rw [q5] at h4; exact h4
      | bk ρ5 => rw [q5] at h4; exact fun σ5 G5 H5 s5 S5 => h4 σ5 G5 H5 s5 S5
      | nx ρ5 => rw [q5] at h4; exact fun σ5 G5 H5 s5 S5 => ⟨G5, ρ5, S5, PostS.on s5 S5 h4⟩
      | ct ρ5 => rw [q5] at h4; exact fun σ5 G5 H5 s5 S5 => ⟨G5, ρ5, S5, PostS.on s5 S5 h4⟩
end
end Vx
end
section
set_option maxRecDepth 100000
set_option maxHeartbeats 1000000
/-! Vx7: defs by what they compute; calls; objects changed. -/
namespace Vx
open PySem PySem.Spec PyProof.Rows L2
open Out (guard)

/-- a def that keeps a promise wherever no text of an object is being made -/
structure FnG (P : Program) (w : World) (K : PySem.W.Frag) (mg : Str → Option Value) (base : Heap) (k : Nat) (f : Addr) (fd : FuncData) (ps : List Str) (sp : Sp) : Prop where
  len : ∀ vs H Q E, sp vs H Q E → vs.length = ps.length
  run : ∀ (A : Around) (outer : List PySem.Env) (s : Shared) (H : Hp) (args : Args) (us : List Value) (vs : List V) (Q : VK) (E : XK), Room k A → A.guards = some [] → Env0 P w K mg base A outer s H → BindsTo s fd args (ps.zip us) → Vals vs us → sp vs H Q E →
    codeAny (model P w) A (.call (.ref f) args) (CR (L2.CX P w) outer P w H s Q E) s
section
variable {P : Program} {w : World} {K : PySem.W.Frag} {mg : Str → Option Value} {base : Heap}
theorem FnG.mono {j k : Nat} {f : Addr} {fd : FuncData} {ps : List Str} {sp : Sp} (F : FnG P w K mg base j f fd ps sp) (h : j ≤ k) : FnG P w K mg base k f fd ps sp :=
  ⟨F.len, fun A o s H a us vs Q E hr => F.run A o s H a us vs Q E (hr.mono h)⟩
/-- the def's body keeps it -/
theorem fnG_of {k : Nat} {f : Addr} {name qual : Str} {params : Arguments} {body : List Stmt} {scope : Scope} {dV kV doc pm cdv ct oc : Value} {an od : Option Addr}
    {osl : Array (Option Value)} {N ps : List Str} {sp : Sp} (lk : K.lookup f = some ⟨oc, od, .func (PySem.W.fnOf name qual params body scope dV kV doc pm an cdv ct), osl⟩) (hcd : PySem.W.codeIn K cdv qual = true) (S : FnScope N ps scope)
    (len : ∀ vs H Q E, sp vs H Q E → vs.length = ps.length)
    (hb : ∀ (A : Around) (outer : List PySem.Env) (s : Shared) (H : Hp) (vs : List V) (Q : VK) (E : XK), Room k (A.deeper (envOfC qual scope s.heap.objs.size f cdv)) → (A.deeper (envOfC qual scope s.heap.objs.size f cdv)).guards = some [] → sp vs H Q E →
      ∃ t, PSs (cxOf (L2.CX P w) P w K mg base N qual scope f cdv A outer s H E) body t ∧ t { nx := fun _ H' => Q .non H', rt := Q } (start N vs) H) :
    FnG P w K mg base (k + 1) f (PySem.W.fnOf name qual params body scope dV kV doc pm an cdv ct) ps sp := by
  refine ⟨len, fun A outer s H args us vs Q E hr hg e0 b r h => ?_⟩
  have hl := len _ _ _ _ h
  have kin : K.In s.heap := e0.mod.kin.keeps fun b o e => (e0.bs b o e).1
  have lim : s.heap.NoLimit := e0.mod.nolimit.keeps fun b o e => (e0.bs b o e).1
  refine codeAny_call_function hr.depth (kin _ _ lk) rfl S.co S.gen rfl (PySem.W.codeRec_of kin hcd) (b _ _ _ _ ?_)
  refine wpAny_newFunctionEnv_cells S.kind (fun ⟨n, v⟩ hy => ?_) fun env he s1 x => ?_
  · rcases S.par n (List.of_mem_zip hy).1 with q | q
    · exact Or.inl q
    · exact Or.inr ⟨q, PySem.W.cellsFrom_some _ _ _ (.inl q)⟩
  subst he
  refine ⟨lim.keeps x.toInCall.keep, codeAny_func ?_⟩
  obtain ⟨t, ht, hq⟩ := hb A outer s H vs Q E (hr.deeper _) hg h
  have I : Inv (cxOf (L2.CX P w) P w K mg base N qual scope f cdv A outer s H E) [] (start N vs) H s1 := inv_start S hr.hd e0 hl r x
  refine wpAny_mono (ht.run [] s1 (start N vs) H _ I hq) (fun fl s' hs => ?_) fun e s' hs => hs
  cases fl with
  | ret u => exact let ⟨v, σ', H', J, rv, q⟩ := hs; ⟨v, H', J.os, J.bare, J.base, J.hok, rv, q⟩
  | next => exact let ⟨σ', H', J, q⟩ := hs; ⟨.non, H', J.os, J.bare, J.base, J.hok, rfl, q⟩
  | brk => exact let ⟨_, _, _, q⟩ := hs; q.elim
  | cont => exact let ⟨_, _, _, q⟩ := hs; q.elim
theorem FunD.okG {x qual : Str} {params : Arguments} {body : List Stmt} {scope : Scope} {dvs : List V} {kws : List (Str × V)} {f : Addr} {fd : FuncData} {N ps : List Str} {k : Nat} {sp : Sp} (F : FunD K x qual params body scope dvs kws f fd) (S : FnScope N ps scope)
    (len : ∀ vs H Q E, sp vs H Q E → vs.length = ps.length)
    (hb : ∀ (cdv : Value) (A : Around) (outer : List PySem.Env) (s : Shared) (H : Hp) (vs : List V) (Q : VK) (E : XK), Room k (A.deeper (envOfC qual scope s.heap.objs.size f cdv)) → (A.deeper (envOfC qual scope s.heap.objs.size f cdv)).guards = some [] → sp vs H Q E →
      ∃ t, PSs (cxOf (L2.CX P w) P w K mg base N qual scope f cdv A outer s H E) body t ∧ t { nx := fun _ H' => Q .non H', rt := Q } (start N vs) H) : FnG P w K mg base (k + 1) f fd ps sp := by
  obtain ⟨oc, od, dV, kV, doc, pm, an, cdv, ct, osl, rfl, lk, hcd, _, _⟩ := F.ex
  exact fnG_of lk hcd S len (hb cdv)
end

/-! ### promises -/
section
variable (K : PySem.W.Frag) (cl : Nat → Addr)
def PostC (fr : Bool) (G H : Hp) (o : Out D) (Q : VK) (E : XK) : Prop := match o with
  | .stuck => False
  | .ok d => match fr with
    | true => ∀ p G' H', Ext G H G' H' → H p = none → G' p = none → Top K cl G' H' p d → Q (.ref p) H'
    | false => ∀ v G' H', Ext G H G' H' → R K cl G' v d → Q v H'
  | .exc x => ∀ c dx G' H', Ext G H G' H' → RX K cl G' H' c dx x → E c dx H'
/-- a def that changes nothing: it gives F of its arguments -/
def spP (n : Nat) (fr : Bool) (F : List D → Out D) : Sp := fun vs H Q E => vs.length = n ∧ ∃ G ds, Same G H ∧ RL K cl G vs ds ∧ PostC K cl fr G H (F ds) Q E
/-- a def that changes its first argument's object alone -/
def PostM (fr : Bool) (a : Addr) (G H : Hp) (o : Out (D × D)) (Q : VK) : Prop := match o with
  | .ok (d, d0) => ∀ G' H', Same G G' → Same G' H' → (∀ b, G b = none → G' b ≠ none → H b = none) → (∀ b o, b ≠ a → H b = some o → H' b = some o) → G' a = none → Top K cl G' H' a d0 →
      (match fr with
        | true => ∀ p, H p = none → G' p = none → Top K cl G' H' p d → Q (.ref p) H'
        | false => ∀ v, R K cl G' v d → Q v H')
  | _ => False
def spM (n : Nat) (fr : Bool) (F : D → List D → Out (D × D)) : Sp := fun vs H Q E => vs.length = n ∧ ∃ G a d vs' ds, vs = .ref a :: vs' ∧ Same G H ∧ G a = none ∧ Top K cl G H a d ∧ RL K cl G vs' ds ∧ PostM K cl fr a G H (F d ds) Q
end
def cells (ds : List D) (n : Nat) : Env := ds.map .sh ++ List.replicate (n - ds.length) .no
def cellsM (d : D) (ds : List D) (n : Nat) : Env := .io d :: ds.map .sh ++ List.replicate (n - (ds.length + 1)) .no
def outP (fr : Bool) : SRes → Out D
  | .rt d _ => .ok d
  | .nx _ => if fr = true then .stuck else .ok .non
  | .exc x _ => .exc x
  | _ => .stuck
def outM (fr : Bool) : SRes → Out (D × D)
  | .rt d ρ => match ρ with | .io d0 :: _ => .ok (d, d0) | _ => .stuck
  | .nx ρ => if fr = true then .stuck else match ρ with | .io d0 :: _ => .ok (.non, d0) | _ => .stuck
  | _ => .stuck
section
variable {K : PySem.W.Frag} {cl : Nat → Addr} {G H : Hp}
theorem cells_sh {ds : List D} {n i : Nat} {c : Cell} (h : (cells ds n)[i]? = some c) : (∃ d, c = .sh d ∧ ds[i]? = some d) ∨ (c = .no ∧ ds.length ≤ i) := by
  unfold cells at h
  by_cases hi : i < ds.length
  · rw [List.getElem?_append_left (by rw [List.length_map]; exact hi), List.getElem?_map] at h
    obtain ⟨d, h1, h2⟩ := Option.map_eq_some_iff.mp h
    exact .inl ⟨d, h2.symm, h1⟩
  · rw [List.getElem?_append_right (by rw [List.length_map]; omega)] at h
    exact .inr ⟨(List.mem_replicate.mp (List.mem_of_getElem? h)).2, by omega⟩
theorem start_at {N : List Str} {vs : List V} {i : Nat} {v : V} (h : vs[i]? = some v) : (start N vs)[i]? = some (some v) := by
  unfold L2.start
  have hi : i < vs.length := (List.getElem?_eq_some_iff.mp h).1
  rw [List.getElem?_append_left (by rw [List.length_map]; exact hi), List.getElem?_map, h]; rfl
theorem start_len {N : List Str} {vs : List V} (h : vs.length ≤ N.length) : (start N vs).length = N.length := by
  unfold L2.start
  rw [List.length_append, List.length_map, List.length_replicate]; omega
theorem sr_start {N : List Str} {vs : List V} {ds : List D} (s : Same G H) (r : RL K cl G vs ds) (h : vs.length ≤ N.length) : Sr K cl G H (start N vs) (cells ds N.length) := by
  have hl := r.length
  have no : ∀ {i : Nat} {d : D}, (cells ds N.length)[i]? = some (.ow d) ∨ (cells ds N.length)[i]? = some (.io d) → False := fun {i d} q => by
    rcases q with q | q
    · rcases cells_sh q with ⟨e, q2, _⟩ | ⟨q2, _⟩ <;> cases q2
    · rcases cells_sh q with ⟨e, q2, _⟩ | ⟨q2, _⟩ <;> cases q2
  refine ⟨s, ?_, fun i d q => ?_, fun i d q => (no q).elim, fun i j d e a q => (no q).elim⟩
  · rw [start_len h]
    unfold cells
    rw [List.length_append, List.length_map, List.length_replicate]; omega
  · rcases cells_sh q with ⟨e, q2, q3⟩ | ⟨q2, _⟩
    · cases q2
      obtain ⟨v, h1, h2⟩ := r.get q3
      exact ⟨v, start_at h1, h2⟩
    · cases q2
theorem cellsM_eq (d : D) (ds : List D) (n : Nat) : cellsM d ds (n + 1) = .io d :: cells ds n := by
  unfold cellsM cells
  rw [show n + 1 - (ds.length + 1) = n - ds.length by omega]; rfl
theorem sr_startM {N : List Str} {x : Str} {vs : List V} {ds : List D} {a : Addr} {d : D} (s : Same G H) (r : RL K cl G vs ds) (h : vs.length ≤ N.length) (n : G a = none) (t : Top K cl G H a d) : Sr K cl G H (start (x :: N) (.ref a :: vs)) (cellsM d ds (N.length + 1)) := by
  have S := sr_start (N := N) s r h
  have es : start (x :: N) (.ref a :: vs) = some (.ref a) :: start N vs := by
    unfold L2.start
    rw [List.length_cons, List.length_cons, show N.length + 1 - (vs.length + 1) = N.length - vs.length by omega]; rfl
  rw [es, cellsM_eq]
  have no : ∀ {i : Nat} {d : D}, (cells ds N.length)[i]? = some (.ow d) ∨ (cells ds N.length)[i]? = some (.io d) → False := fun {i d} q => by
    rcases q with q | q
    · rcases cells_sh q with ⟨e, q2, _⟩ | ⟨q2, _⟩ <;> cases q2
    · rcases cells_sh q with ⟨e, q2, _⟩ | ⟨q2, _⟩ <;> cases q2
  refine ⟨s, by rw [List.length_cons, List.length_cons, S.len], fun i e q => ?_, fun i e q => ?_, fun i j e e' b q q' _ _ => ?_⟩
  · cases i with
    | zero => cases q
    | succ i =>
      obtain ⟨v, h1, h2⟩ := S.sh i e (by simpa using q)
      exact ⟨v, by simpa using h1, h2⟩
  · cases i with
    | zero =>
      rcases q with q | q
      · cases q
      · cases q; exact ⟨a, rfl, n, t⟩
    | succ i => exact (no (i := i) (d := e) (by simpa using q)).elim
  · cases i with
    | succ i => exact (no (i := i) (d := e) (by simpa using q)).elim
    | zero =>
      cases j with
      | succ j => exact (no (i := j) (d := e') (by simpa using q')).elim
      | zero => rfl
end
section
variable {P : Program} {w : World} {K : PySem.W.Frag} {mg : Str → Option Value} {base : Heap} {cl : Nat → Addr}
variable {x qual : Str} {params : Arguments} {body : List Stmt} {scope : Scope} {dvs : List V} {kws : List (Str × V)} {f : Addr} {fd : FuncData} {N ps : List Str} {k : Nat}
abbrev WofE (E : XK) : WX := fun c d _ H => E c d H
/-- a def that changes nothing, by its body's meaning -/
theorem def_pure {fr : Bool} {F : List D → Out D} {m : Env → SRes} (Fd : FunD K x qual params body scope dvs kws f fd) (S : FnScope N ps scope) (hN : ps.length ≤ N.length)
    (hb : ∀ (cdv : Value) (A : Around) (outer : List PySem.Env) (s : Shared) (H : Hp) (E : XK), Room k (A.deeper (envOfC qual scope s.heap.objs.size f cdv)) → (A.deeper (envOfC qual scope s.heap.objs.size f cdv)).guards = some [] →
      DSs (cxOf (L2.CX P w) P w K mg base N qual scope f cdv A outer s H E) cl (WofE E) fr body m)
    (hF : ∀ ds : List D, ds.length = ps.length → F ds = .stuck ∨ outP fr (m (cells ds N.length)) = F ds) : FnG P w K mg base (k + 1) f fd ps (spP K cl ps.length fr F) := by
  refine FunD.okG Fd S (fun vs H Q E h => h.1) fun cdv A outer s H vs Q E hr hg h => ?_
  obtain ⟨hl, G, ds, sm, rl, po⟩ := h
  obtain ⟨t, pt, kt⟩ := (hb cdv A outer s H E hr hg).ex
  refine ⟨t, pt, kt G H _ (cells ds N.length) _ (sr_start sm rl (by omega)) ?_⟩
  have S0 : Sr K cl G H (start N vs) (cells ds N.length) := sr_start sm rl (by omega)
  have no : ∀ b, ¬ Owned (start N vs) (cells ds N.length) b := fun b z => by
    rcases z with ⟨i, d, q, _⟩ | ⟨i, d, q, _⟩
    · rcases cells_sh q with ⟨e, q2, _⟩ | ⟨q2, _⟩ <;> cases q2
    · rcases cells_sh q with ⟨e, q2, _⟩ | ⟨q2, _⟩ <;> cases q2
  have ext : ∀ {G' H' : Hp} {σ' : Sl} {ρ' : Env}, Stp G H (start N vs) (cells ds N.length) G' H' σ' ρ' → Sr K cl G' H' σ' ρ' → Ext G H G' H' := fun st S' =>
    ⟨st.g, fun b o q => st.fr b o q (no b), S'.s, fun b q q' => (st.gf b q q').elim id fun z => (no b (.inl z)).elim⟩
  have nw : ∀ {p : Addr}, H p = none ∨ OwnedW (start N vs) (cells ds N.length) p → H p = none := fun h => h.elim id fun z => (no _ (.inl z)).elim
  rcases hF ds (by rw [← rl.length]; exact hl) with e | e
  · rw [e] at po; exact po.elim
  · rw [← e] at po
    show PostS K cl (WofE E) fr G H (start N vs) (cells ds N.length) (m (cells ds N.length)) _
    cases q : m (cells ds N.length) with
    | stuck => rw [q] at po; exact po
    | bk ρ' => rw [q] at po; exact po.elim
    | ct ρ' => rw [q] at po; exact po.elim
    | exc y ρ' => rw [q] at po; exact fun c dx σ' G' H' st S' r => po c dx G' H' (ext st S') r
    | nx ρ' =>
      rw [q] at po
      cases fr with
      | true => exact po.elim
      | false => exact fun σ' G' H' st S' => po .non G' H' (ext st S') .non
    | rt d ρ' =>
      rw [q] at po
      cases fr with
      | true => exact fun p σ' G' H' st S' hp ho hn t => po p G' H' (ext st S') (nw hp) hn t
      | false => exact fun v σ' G' H' st S' r => po v G' H' (ext st S') r
/-- a def that changes its first argument's object -/
theorem def_mut {fr : Bool} {F : D → List D → Out (D × D)} {m : Env → SRes} {y : Str} {N' ps' : List Str} (Fd : FunD K x qual params body scope dvs kws f fd) (S : FnScope (y :: N') (y :: ps') scope) (hN : ps'.length ≤ N'.length)
    (hb : ∀ (cdv : Value) (A : Around) (outer : List PySem.Env) (s : Shared) (H : Hp) (E : XK), Room k (A.deeper (envOfC qual scope s.heap.objs.size f cdv)) → (A.deeper (envOfC qual scope s.heap.objs.size f cdv)).guards = some [] →
      DSs (cxOf (L2.CX P w) P w K mg base (y :: N') qual scope f cdv A outer s H E) cl (WofE E) fr body m)
    (hF : ∀ (d : D) (ds : List D), ds.length = ps'.length → F d ds = .stuck ∨ outM fr (m (cellsM d ds (N'.length + 1))) = F d ds) : FnG P w K mg base (k + 1) f fd (y :: ps') (spM K cl (ps'.length + 1) fr F) := by
  refine FunD.okG Fd S (fun vs H Q E h => h.1) fun cdv A outer s H vs Q E hr hg h => ?_
  obtain ⟨hl, G, a, d, vs', ds, rfl, sm, na, ta, rl, po⟩ := h
  obtain ⟨t, pt, kt⟩ := (hb cdv A outer s H E hr hg).ex
  have hl' : vs'.length = ps'.length := by simpa using hl
  have S0 := sr_startM (x := y) (N := N') sm rl (by omega) na ta
  refine ⟨t, pt, kt G H _ (cellsM d ds (N'.length + 1)) _ S0 ?_⟩
  have hio : (cellsM d ds (N'.length + 1))[0]? = some (.io d) := rfl
  have hσ : (start (y :: N') (.ref a :: vs'))[0]? = some (some (.ref a)) := start_at rfl
  have hce : ∀ {i : Nat} {c : Cell}, (cellsM d ds (N'.length + 1))[i + 1]? = some c → (∃ e, c = .sh e) ∨ c = .no := fun {i c} q => by
    rw [cellsM_eq] at q
    rcases cells_sh (show (cells ds N'.length)[i]? = some c by simpa using q) with ⟨e, q2, _⟩ | ⟨q2, _⟩
    · exact .inl ⟨e, q2⟩
    · exact .inr q2
  have ownA : ∀ b, Owned (start (y :: N') (.ref a :: vs')) (cellsM d ds (N'.length + 1)) b → b = a := fun b z => by
    rcases z with ⟨i, e, q, q'⟩ | ⟨i, e, q, q'⟩
    · cases i with
      | zero => cases q
      | succ i => rcases hce q with ⟨e', z⟩ | z <;> cases z
    · cases i with
      | zero => rw [hσ] at q'; cases q'; rfl
      | succ i => rcases hce q with ⟨e', z⟩ | z <;> cases z
  have noW : ∀ b, ¬ OwnedW (start (y :: N') (.ref a :: vs')) (cellsM d ds (N'.length + 1)) b := fun b ⟨i, e, q, _⟩ => by
    cases i with
    | zero => cases q
    | succ i => rcases hce q with ⟨e', z⟩ | z <;> cases z
  rcases hF d ds (by rw [← rl.length]; exact hl') with e | e
  · rw [e] at po; exact po.elim
  · rw [← e] at po
    show PostS K cl (WofE E) fr G H _ (cellsM d ds (N'.length + 1)) (m (cellsM d ds (N'.length + 1))) _
    have fin : ∀ {G' H' : Hp} {σ' : Sl} {ρ' : Env} {d0 : D} {rest : Env}, ρ' = .io d0 :: rest → Stp G H (start (y :: N') (.ref a :: vs')) (cellsM d ds (N'.length + 1)) G' H' σ' ρ' → Sr K cl G' H' σ' ρ' →
        Same G G' ∧ Same G' H' ∧ (∀ b, G b = none → G' b ≠ none → H b = none) ∧ (∀ b o, b ≠ a → H b = some o → H' b = some o) ∧ G' a = none ∧ Top K cl G' H' a d0 := fun {G' H' σ' ρ' d0 rest} eρ st S' => by
      obtain ⟨_, e2⟩ := st.io 0 d hio
      obtain ⟨b, q1, q2, q3⟩ := S'.own 0 d0 (.inr (by rw [eρ]; rfl))
      rw [e2, hσ] at q1
      cases q1
      exact ⟨st.g, S'.s, fun b q q' => (st.gf b q q').elim id fun z => (noW b z).elim, fun b o hb q => st.fr b o q fun z => hb (ownA b z), q2, q3⟩
    cases q : m (cellsM d ds (N'.length + 1)) with
    | stuck => rw [q] at po; exact po
    | bk ρ' => rw [q] at po; exact po.elim
    | ct ρ' => rw [q] at po; exact po.elim
    | exc y ρ' => rw [q] at po; exact po.elim
    | nx ρ' =>
      rw [q] at po
      cases fr with
      | true => exact po.elim
      | false =>
        cases ρ' with
        | nil => exact po.elim
        | cons c rest =>
          cases c <;> try exact po.elim
          intro σ' G' H' st S'
          obtain ⟨a1, a2, a3, a4, a5, a6⟩ := fin rfl st S'
          exact po G' H' a1 a2 a3 a4 a5 a6 .non .non
    | rt d1 ρ' =>
      rw [q] at po
      cases ρ' with
      | nil => exact po.elim
      | cons c rest =>
        cases c <;> try exact po.elim
        cases fr with
        | true =>
          intro p σ' G' H' st S' hp ho hn t
          obtain ⟨a1, a2, a3, a4, a5, a6⟩ := fin rfl st S'
          exact po G' H' a1 a2 a3 a4 a5 a6 p (hp.elim id fun z => (noW _ z).elim) hn t
        | false =>
          intro v σ' G' H' st S' r
          obtain ⟨a1, a2, a3, a4, a5, a6⟩ := fin rfl st S'
          exact po G' H' a1 a2 a3 a4 a5 a6 v r
end

/-! ### calls -/
section
variable {X : Cx} {cl : Nat → Addr} {W : WX} {k : Nat} {f : Addr} {fd : FuncData} {ps : List Str} {sp : Sp} {ds : List Value} {dvs : List V} {x : Str} {p pos : Pos} {e : Expr} {es : List Expr} {t : TA} {ml : PEnv → Out (List D)}
theorem run_fnG {pins : List (Addr × Obj)} {σ : Sl} {H : Hp} {s : Shared} {Q : VK} {us : List Value} {vs : List V} (F : FnG X.prog X.w X.K X.mg X.base k f fd ps sp) (hr : Room k X.A) (hg : X.A.guards = some []) (hb : Binds X.K fd ps ds) (hd : Vals dvs ds) (tk : Takes X W)
    (I : Inv X pins σ H s) (r : Vals vs us) (h : sp (vs ++ dvs) H Q (WE W σ)) : wpAny (model X.prog X.w) X.A (call (.ref f) us) (EP X pins σ Q) X.xe s := by
  have r2 : Vals (vs ++ dvs) (us ++ ds) := r.append hd
  have hl : (us ++ ds).length = ps.length := r2.length.symm.trans (F.len _ _ _ _ h)
  refine wpAny_call (codeAny_mono (F.run X.A X.stack s H _ _ _ Q _ hr hg I.env0 (hb s us I.kIn hl) r2 h) fun r s' hq => ?_)
  cases r with
  | error e => exact passAt tk σ pins H s e s' I hq
  | ok fl =>
    cases fl with
    | ret u => exact I.after hq
    | next => exact hq.elim
    | brk => exact hq.elim
    | cont => exact hq.elim
def tCallG (sp : Sp) (dvs : List V) (W : WX) (t : TA) : TE := fun σ H Q => t σ H fun vs H1 => sp (vs ++ dvs) H1 Q (WE W σ)
theorem pe_callG (F : FnG X.prog X.w X.K X.mg X.base k f fd ps sp) (hr : Room k X.A) (hgd : X.A.guards = some []) (hm : X.mg x = some (.ref f)) (hk : PySem.W.keepIn X.K (.ref f) = true) (hb : Binds X.K fd ps ds) (hd : Vals dvs ds) (tk : Takes X W)
    (ha : PA X (e :: es) t) (hg : Gl X x) (hdb : (x == ("__debug__" : Str)) = false) (he : starEach (e :: es) X.env = (false, eval e X.env) :: starEach es X.env) (hpl : (backTo pos (starEach es X.env)).any (·.1) = false) :
    PE X (.Call (.Name x p) (e :: es) [] pos) (tCallG sp dvs W t) :=
  ⟨fun pins s σ H Q I h => wpAny_Call_Name_kw (ld_glob I hg hm (PySem.W.callWith_K (h₀ := X.base) I.ok.mod.kin hk (thn (ha.run pos pins s σ H _ I h) fun us s1 ⟨vs, H1, I1, r, q⟩ => ⟨I1.kIn, run_fnG F hr hgd hb hd tk I1 r q⟩) he hpl) hdb)⟩
theorem pe_call0G (F : FnG X.prog X.w X.K X.mg X.base k f fd ps sp) (hr : Room k X.A) (hgd : X.A.guards = some []) (hm : X.mg x = some (.ref f)) (hk : PySem.W.keepIn X.K (.ref f) = true) (hb : Binds X.K fd ps ds) (hd : Vals dvs ds) (tk : Takes X W)
    (hg : Gl X x) (hdb : (x == ("__debug__" : Str)) = false) : PE X (.Call (.Name x p) [] [] pos) (tCallG sp dvs W tNil) :=
  ⟨fun pins s σ H Q I h => wpAny_Call_Name_kw (ld_glob I hg hm (PySem.W.callWith_K0 I.kIn hk (run_fnG (us := []) F hr hgd hb hd tk I .nil h)) hdb)⟩
/-- a def, as its callers know it -/
structure Callee (P : Program) (w : World) (K : PySem.W.Frag) (mg : Str → Option Value) (base : Heap) (x : Str) (k : Nat) (sp : Sp) : Prop where
  ex : ∃ (f : Addr) (fd : FuncData) (ps : List Str), FnG P w K mg base k f fd ps sp ∧ mg x = some (.ref f) ∧ PySem.W.keepIn K (.ref f) = true ∧ Binds K fd ps []
theorem PostC.post {n : Nat} {fr : Bool} {F : List D → Out D} {σ : Sl} {G H : Hp} {ds : List D} {Q : VK} (h : Post X.K cl W σ G H (F ds) Q) : PostC X.K cl fr G H (F ds) Q (WE W σ) := by
  cases q : F ds with
  | stuck => rw [q] at h; exact h
  | exc y => rw [q] at h; exact h
  | ok d =>
    rw [q] at h
    cases fr with
    | true => exact fun p G' H' x hp hn t => h (.ref p) _ H' (x.put hp hn) (t.read hn)
    | false => exact h
theorem PostC.postN {n : Nat} {F : List D → Out D} {σ : Sl} {G H : Hp} {ds : List D} {Q : VK} (h : PostN X.K cl W σ G H (F ds) Q) : PostC X.K cl true G H (F ds) Q (WE W σ) := by
  cases q : F ds with
  | stuck => rw [q] at h; exact h
  | exc y => rw [q] at h; exact h
  | ok d => rw [q] at h; exact h
theorem dp_call {n : Nat} {fr : Bool} {F : List D → Out D} (C : Callee X.prog X.w X.K X.mg X.base x k (spP X.K cl n fr F)) (hr : Room k X.A) (hgd : X.A.guards = some []) (tk : Takes X W)
    (ha : DA X cl W (e :: es) ml) (hg : Gl X x := by rfl) (hdb : (x == ("__debug__" : Str)) = false := by decide) (he : starEach (e :: es) X.env = (false, eval e X.env) :: starEach es X.env := by rfl) (hpl : (backTo pos (starEach es X.env)).any (·.1) = false := by rfl)
    (hn : (e :: es).length = n := by rfl) : DP X cl W (.Call (.Name x p) (e :: es) [] pos) (fun ρ => (ml ρ).bind fun ds => guard (decide (ds.length = n)) (F ds)) := by
  obtain ⟨f, fd, ps, FG, hm, hk, hb⟩ := C.ex
  obtain ⟨t, pa, ka⟩ := ha.ex
  refine ⟨_, pe_callG FG hr hgd hm hk hb .nil tk pa hg hdb he hpl, fun G H σ ρ Q s rs h => ka G H σ ρ _ s rs (PostL.bind h fun ds vs G1 H1 e1 r h1 => ?_)⟩
  obtain ⟨c, h2⟩ := guard_ok h1
  rw [List.append_nil]
  exact ⟨by rw [r.length]; exact c, G1, ds, e1.s, r, PostC.post (n := n) h2⟩
theorem dn_call {n : Nat} {F : List D → Out D} (C : Callee X.prog X.w X.K X.mg X.base x k (spP X.K cl n true F)) (hr : Room k X.A) (hgd : X.A.guards = some []) (tk : Takes X W)
    (ha : DA X cl W (e :: es) ml) (hg : Gl X x := by rfl) (hdb : (x == ("__debug__" : Str)) = false := by decide) (he : starEach (e :: es) X.env = (false, eval e X.env) :: starEach es X.env := by rfl) (hpl : (backTo pos (starEach es X.env)).any (·.1) = false := by rfl)
    : DN X cl W (.Call (.Name x p) (e :: es) [] pos) (fun ρ => (ml ρ).bind fun ds => guard (decide (ds.length = n)) (F ds)) := by
  obtain ⟨f, fd, ps, FG, hm, hk, hb⟩ := C.ex
  obtain ⟨t, pa, ka⟩ := ha.ex
  refine ⟨_, pe_callG FG hr hgd hm hk hb .nil tk pa hg hdb he hpl, fun G H σ ρ Q s rs h => ka G H σ ρ _ s rs (PostN.bindL h fun ds vs G1 H1 e1 r h1 => ?_)⟩
  obtain ⟨c, h2⟩ := PostN.guard h1
  rw [List.append_nil]
  exact ⟨by rw [r.length]; exact c, G1, ds, e1.s, r, PostC.postN (n := n) h2⟩
theorem dp_call0 {fr : Bool} {F : List D → Out D} (C : Callee X.prog X.w X.K X.mg X.base x k (spP X.K cl 0 fr F)) (hr : Room k X.A) (hgd : X.A.guards = some []) (tk : Takes X W)
    (hg : Gl X x := by rfl) (hdb : (x == ("__debug__" : Str)) = false := by decide) : DP X cl W (.Call (.Name x p) [] [] pos) (fun _ => F []) := by
  obtain ⟨f, fd, ps, FG, hm, hk, hb⟩ := C.ex
  exact ⟨_, pe_call0G FG hr hgd hm hk hb .nil tk hg hdb, fun G H σ ρ Q s rs h => ⟨rfl, G, [], s, .nil, PostC.post (n := 0) h⟩⟩
theorem dn_call0 {F : List D → Out D} (C : Callee X.prog X.w X.K X.mg X.base x k (spP X.K cl 0 true F)) (hr : Room k X.A) (hgd : X.A.guards = some []) (tk : Takes X W)
    (hg : Gl X x := by rfl) (hdb : (x == ("__debug__" : Str)) = false := by decide) : DN X cl W (.Call (.Name x p) [] [] pos) (fun _ => F []) := by
  obtain ⟨f, fd, ps, FG, hm, hk, hb⟩ := C.ex
  exact ⟨_, pe_call0G FG hr hgd hm hk hb .nil tk hg hdb, fun G H σ ρ Q s rs h => ⟨rfl, G, [], s, .nil, PostC.postN (n := 0) h⟩⟩
end

/-! ### a slot's object changed -/
def getO (ρ : Env) (i : Nat) : Option D := match ρ[i]? with
  | some (.ow d) => some d
  | some (.io d) => some d
  | _ => none
def mutC (ρ : Env) (i : Nat) (d : D) : Env := match ρ[i]? with
  | some (.ow _) => ρ.set i (.ow d)
  | some (.io _) => ρ.set i (.io d)
  | _ => ρ
section
variable {K : PySem.W.Frag} {cl : Nat → Addr} {G H H' : Hp} {σ : Sl} {ρ : Env} {i : Nat} {d : D}
theorem getO_at (h : getO ρ i = some d) : ρ[i]? = some (.ow d) ∨ ρ[i]? = some (.io d) := by
  unfold getO at h
  split at h
  · rename_i q; cases h; exact .inl q
  · rename_i q; cases h; exact .inr q
  · cases h
theorem mutC_at (h : getO ρ i = some d) (d' : D) (j : Nat) : (mutC ρ i d')[j]? = if j = i then (match ρ[i]? with | some (.ow _) => some (.ow d') | _ => some (.io d')) else ρ[j]? := by
  have hl : i < ρ.length := by rcases getO_at h with q | q <;> exact (List.getElem?_eq_some_iff.mp q).1
  unfold mutC
  rcases getO_at h with q | q <;> rw [q] <;> simp only [] <;> rw [set_get hl]
theorem mutC_len (d' : D) : (mutC ρ i d').length = ρ.length := by
  unfold mutC
  split <;> first | rw [List.length_set] | rfl
/-- slot i's object has become d', all other objects that stood stay; more is known, and new ones may have come -/
theorem mut_okG {G' : Hp} {d' : D} {a : Addr} (S : Sr K cl G H σ ρ) (h : getO ρ i = some d) (ha : σ[i]? = some (some (.ref a))) (hg : Same G G') (hs : Same G' H') (hf : ∀ b, G b = none → G' b ≠ none → H b = none) (hk : ∀ b o, b ≠ a → H b = some o → H' b = some o) (t : Top K cl G' H' a d') :
    Stp G H σ ρ G' H' σ (mutC ρ i d') ∧ Sr K cl G' H' σ (mutC ρ i d') := by
  have hi := getO_at h
  obtain ⟨a', e, n, t0⟩ := S.own i d hi
  rw [ha] at e
  cases e
  have still : ∀ {b : Addr}, G b = none → (∃ o, H b = some o) → G' b = none := fun {b} q ⟨o, q'⟩ => by
    cases z : G' b with
    | none => rfl
    | some u =>
      have := hf b q (by rw [z]; simp)
      rw [this] at q'; cases q'
  have back : ∀ {j : Nat} {e : D}, (mutC ρ i d')[j]? = some (.ow e) → (∃ e', ρ[j]? = some (.ow e')) ∧ (j ≠ i → ρ[j]? = some (.ow e)) ∧ (j = i → e = d') := fun {j e} q => by
    rw [mutC_at h] at q
    by_cases hj : j = i
    · subst hj
      rw [if_pos rfl] at q
      rcases hi with z | z
      · rw [z] at q; cases q; exact ⟨⟨d, z⟩, fun w => absurd rfl w, fun _ => rfl⟩
      · rw [z] at q; cases q
    · rw [if_neg hj] at q
      exact ⟨⟨e, q⟩, fun _ => q, fun z => absurd z hj⟩
  have backI : ∀ {j : Nat} {e : D}, (mutC ρ i d')[j]? = some (.io e) → (∃ e', ρ[j]? = some (.io e')) ∧ (j ≠ i → ρ[j]? = some (.io e)) ∧ (j = i → e = d') := fun {j e} q => by
    rw [mutC_at h] at q
    by_cases hj : j = i
    · subst hj
      rw [if_pos rfl] at q
      rcases hi with z | z
      · rw [z] at q; cases q
      · rw [z] at q; cases q; exact ⟨⟨d, z⟩, fun w => absurd rfl w, fun _ => rfl⟩
    · rw [if_neg hj] at q
      exact ⟨⟨e, q⟩, fun _ => q, fun z => absurd z hj⟩
  have own : Owned σ ρ a := by
    rcases hi with q | q
    · exact .inl ⟨i, d, q, ha⟩
    · exact .inr ⟨i, d, q, ha⟩
  refine ⟨⟨hg, fun b x y => .inl (hf b x y), fun b o q nb => hk b o (fun z => nb (z ▸ own)) q, fun b ⟨j, e, q, q'⟩ => .inr (let ⟨⟨e', z⟩, _⟩ := back q; ⟨j, e', z, q'⟩), fun j e q => ⟨?_, rfl⟩, fun j e q => (backI q).1, rfl⟩,
    ⟨hs, by rw [mutC_len]; exact S.len, fun j e q => ?_, fun j e q => ?_, fun j l e e' b q1 q2 => ?_⟩⟩
  · rw [mutC_at h]
    by_cases hj : j = i
    · subst hj
      rw [if_pos rfl, q]
      exact ⟨d', rfl⟩
    · rw [if_neg hj]; exact ⟨e, q⟩
  · rw [mutC_at h] at q
    by_cases hj : j = i
    · subst hj
      rw [if_pos rfl] at q
      rcases hi with z | z <;> rw [z] at q <;> cases q
    · rw [if_neg hj] at q
      obtain ⟨v, w1, w2⟩ := S.sh j e q
      exact ⟨v, w1, w2.mono hg⟩
  · have q0 : (∃ e', ρ[j]? = some (.ow e') ∨ ρ[j]? = some (.io e')) ∧ (j ≠ i → ρ[j]? = some (.ow e) ∨ ρ[j]? = some (.io e)) ∧ (j = i → e = d') := by
      rcases q with q | q
      · obtain ⟨⟨e', z1⟩, z2, z3⟩ := back q
        exact ⟨⟨e', .inl z1⟩, fun w => .inl (z2 w), z3⟩
      · obtain ⟨⟨e', z1⟩, z2, z3⟩ := backI q
        exact ⟨⟨e', .inr z1⟩, fun w => .inr (z2 w), z3⟩
    by_cases hj : j = i
    · rw [q0.2.2 hj, hj]
      exact ⟨a, ha, still n t0.there, t⟩
    · obtain ⟨b, e1, n1, t1⟩ := S.own j e (q0.2.1 hj)
      have hb : b ≠ a := by
        rintro rfl
        exact hj (S.inj j i e d b (q0.2.1 hj) hi e1 ha)
      exact ⟨b, e1, still n1 t1.there, t1.mono hg fun o q => hk b o hb q⟩
  · have w1 : ∃ e', ρ[j]? = some (.ow e') ∨ ρ[j]? = some (.io e') := by
      rcases q1 with q | q
      · exact let ⟨⟨e', z⟩, _⟩ := back q; ⟨e', .inl z⟩
      · exact let ⟨⟨e', z⟩, _⟩ := backI q; ⟨e', .inr z⟩
    have w2 : ∃ e', ρ[l]? = some (.ow e') ∨ ρ[l]? = some (.io e') := by
      rcases q2 with q | q
      · exact let ⟨⟨e', z⟩, _⟩ := back q; ⟨e', .inl z⟩
      · exact let ⟨⟨e', z⟩, _⟩ := backI q; ⟨e', .inr z⟩
    obtain ⟨e1, w1⟩ := w1
    obtain ⟨e2, w2⟩ := w2
    exact S.inj j l e1 e2 b w1 w2
theorem mut_ok {d' : D} {a : Addr} (S : Sr K cl G H σ ρ) (h : getO ρ i = some d) (ha : σ[i]? = some (some (.ref a))) (hk : ∀ b o, b ≠ a → H b = some o → H' b = some o) (t : Top K cl G H' a d') :
    Stp G H σ ρ G H' σ (mutC ρ i d') ∧ Sr K cl G H' σ (mutC ρ i d') := by
  obtain ⟨a', e, n, t0⟩ := S.own i d (getO_at h)
  rw [ha] at e
  cases e
  exact mut_okG S h ha (.refl _) (fun b o q => hk b o (by rintro rfl; rw [n] at q; cases q) (S.s _ _ q)) (fun _ x y => absurd x y) hk t
end
end Vx
end
section
set_option maxRecDepth 100000
set_option maxHeartbeats 1000000
/-! Vx8: expressions with changes in them. -/
namespace Vx
open PySem PySem.Spec PyProof.Rows L2
open Out (guard)

def liftO (o : Out D) (ρ : Env) : Res D := match o with
  | .ok d => .ok d ρ
  | .exc x => .exc x ρ
  | .stuck => .stuck
def PostEL (K : PySem.W.Frag) (cl : Nat → Addr) (W : WX) (G H : Hp) (σ : Sl) (ρ : Env) (o : Res (List D)) (Q : List V → Hp → Prop) : Prop := match o with
  | .stuck => False
  | .ok ds ρ' => ∀ vs G' H', Stp G H σ ρ G' H' σ ρ' → Sr K cl G' H' σ ρ' → RL K cl G' vs ds → Q vs H'
  | .exc x ρ' => ∀ c dx G' H', Stp G H σ ρ G' H' σ ρ' → Sr K cl G' H' σ ρ' → RX K cl G' H' c dx x → W c dx σ H'
structure DAE (X : Cx) (cl : Nat → Addr) (W : WX) (es : List Expr) (m : Env → Res (List D)) : Prop where
  ex : ∃ t : TA, PA X es t ∧ ∀ (G H : Hp) (σ : Sl) (ρ : Env) (Q : List V → Hp → Prop), Sr X.K cl G H σ ρ → PostEL X.K cl W G H σ ρ (m ρ) Q → t σ H Q
section
variable {K : PySem.W.Frag} {cl : Nat → Addr} {W : WX} {G H G1 H1 : Hp} {σ : Sl} {ρ ρ1 : Env}
theorem PostEL.on {o : Res (List D)} {Q : List V → Hp → Prop} (a : Stp G H σ ρ G1 H1 σ ρ1) (S : Sr K cl G1 H1 σ ρ1) (h : PostEL K cl W G H σ ρ o Q) : PostEL K cl W G1 H1 σ ρ1 o Q := by
  cases o with
  | stuck => exact h
  | ok d ρ' => exact fun v G' H' b S' r => h v G' H' (a.trans S b) S' r
  | exc x ρ' => exact fun c dx G' H' b S' r => h c dx G' H' (a.trans S b) S' r
theorem PostE.bind {o : Res D} {f : D → Env → Res D} {Q Q1 : VK} (h : PostE K cl W G H σ ρ (o.bind f) Q)
    (k : ∀ d v ρ' G' H', Stp G H σ ρ G' H' σ ρ' → Sr K cl G' H' σ ρ' → R K cl G' v d → PostE K cl W G' H' σ ρ' (f d ρ') Q → Q1 v H') : PostE K cl W G H σ ρ o Q1 := by
  cases o with
  | stuck => exact h
  | exc x ρ' => exact h
  | ok d ρ' => exact fun v G' H' b S' r => k d v ρ' G' H' b S' r (PostE.on b S' h)
theorem PostE.bindF {o : Res D} {f : D → Env → Res D} {Q Q1 : VK} (h : PostF K cl W G H σ ρ (o.bind f) Q)
    (k : ∀ d v ρ' G' H', Stp G H σ ρ G' H' σ ρ' → Sr K cl G' H' σ ρ' → R K cl G' v d → PostF K cl W G' H' σ ρ' (f d ρ') Q → Q1 v H') : PostE K cl W G H σ ρ o Q1 := by
  cases o with
  | stuck => exact h
  | exc x ρ' => exact h
  | ok d ρ' => exact fun v G' H' b S' r => k d v ρ' G' H' b S' r (PostF.on b S' h)
theorem PostE.bindB {o : Res D} {f : D → Env → Res Bool} {Q : Bool → Hp → Prop} {Q1 : VK} (h : PostEB K cl W G H σ ρ (o.bind f) Q)
    (k : ∀ d v ρ' G' H', Stp G H σ ρ G' H' σ ρ' → Sr K cl G' H' σ ρ' → R K cl G' v d → PostEB K cl W G' H' σ ρ' (f d ρ') Q → Q1 v H') : PostE K cl W G H σ ρ o Q1 := by
  cases o with
  | stuck => exact h
  | exc x ρ' => exact h
  | ok d ρ' => exact fun v G' H' b S' r => k d v ρ' G' H' b S' r (PostEB.on b S' h)
theorem PostE.bindL {o : Res D} {f : D → Env → Res (List D)} {Q : List V → Hp → Prop} {Q1 : VK} (h : PostEL K cl W G H σ ρ (o.bind f) Q)
    (k : ∀ d v ρ' G' H', Stp G H σ ρ G' H' σ ρ' → Sr K cl G' H' σ ρ' → R K cl G' v d → PostEL K cl W G' H' σ ρ' (f d ρ') Q → Q1 v H') : PostE K cl W G H σ ρ o Q1 := by
  cases o with
  | stuck => exact h
  | exc x ρ' => exact h
  | ok d ρ' => exact fun v G' H' b S' r => k d v ρ' G' H' b S' r (PostEL.on b S' h)
theorem PostEL.bindL {o : Res (List D)} {f : List D → Env → Res (List D)} {Q Q1 : List V → Hp → Prop} (h : PostEL K cl W G H σ ρ (o.bind f) Q)
    (k : ∀ d v ρ' G' H', Stp G H σ ρ G' H' σ ρ' → Sr K cl G' H' σ ρ' → RL K cl G' v d → PostEL K cl W G' H' σ ρ' (f d ρ') Q → Q1 v H') : PostEL K cl W G H σ ρ o Q1 := by
  cases o with
  | stuck => exact h
  | exc x ρ' => exact h
  | ok d ρ' => exact fun v G' H' b S' r => k d v ρ' G' H' b S' r (PostEL.on b S' h)
theorem PostEL.bind {o : Res (List D)} {f : List D → Env → Res D} {Q : VK} {Q1 : List V → Hp → Prop} (h : PostE K cl W G H σ ρ (o.bind f) Q)
    (k : ∀ d v ρ' G' H', Stp G H σ ρ G' H' σ ρ' → Sr K cl G' H' σ ρ' → RL K cl G' v d → PostE K cl W G' H' σ ρ' (f d ρ') Q → Q1 v H') : PostEL K cl W G H σ ρ o Q1 := by
  cases o with
  | stuck => exact h
  | exc x ρ' => exact h
  | ok d ρ' => exact fun v G' H' b S' r => k d v ρ' G' H' b S' r (PostE.on b S' h)
theorem PostEL.bindF {o : Res (List D)} {f : List D → Env → Res D} {Q : VK} {Q1 : List V → Hp → Prop} (h : PostF K cl W G H σ ρ (o.bind f) Q)
    (k : ∀ d v ρ' G' H', Stp G H σ ρ G' H' σ ρ' → Sr K cl G' H' σ ρ' → RL K cl G' v d → PostF K cl W G' H' σ ρ' (f d ρ') Q → Q1 v H') : PostEL K cl W G H σ ρ o Q1 := by
  cases o with
  | stuck => exact h
  | exc x ρ' => exact h
  | ok d ρ' => exact fun v G' H' b S' r => k d v ρ' G' H' b S' r (PostF.on b S' h)
theorem PostEB.bindB {o : Res Bool} {f : Bool → Env → Res Bool} {Q Q1 : Bool → Hp → Prop} (h : PostEB K cl W G H σ ρ (o.bind f) Q)
    (k : ∀ d ρ' G' H', Stp G H σ ρ G' H' σ ρ' → Sr K cl G' H' σ ρ' → PostEB K cl W G' H' σ ρ' (f d ρ') Q → Q1 d H') : PostEB K cl W G H σ ρ o Q1 := by
  cases o with
  | stuck => exact h
  | exc x ρ' => exact h
  | ok d ρ' => exact fun G' H' b S' => k d ρ' G' H' b S' (PostEB.on b S' h)
theorem PostEB.bind {o : Res Bool} {f : Bool → Env → Res D} {Q : VK} {Q1 : Bool → Hp → Prop} (h : PostE K cl W G H σ ρ (o.bind f) Q)
    (k : ∀ d ρ' G' H', Stp G H σ ρ G' H' σ ρ' → Sr K cl G' H' σ ρ' → PostE K cl W G' H' σ ρ' (f d ρ') Q → Q1 d H') : PostEB K cl W G H σ ρ o Q1 := by
  cases o with
  | stuck => exact h
  | exc x ρ' => exact h
  | ok d ρ' => exact fun G' H' b S' => k d ρ' G' H' b S' (PostE.on b S' h)
/-- a pure end -/
theorem PostE.lift {o : Out D} {Q : VK} (S : Sr K cl G H σ ρ) (h : PostE K cl W G H σ ρ (liftO o ρ) Q) : Post K cl W σ G H o Q := by
  cases o with
  | stuck => exact h
  | ok d => exact fun v G' H' x r => let ⟨s, S'⟩ := Stp.pure S x; h v G' H' s S' r
  | exc y => exact fun c dx G' H' x r => let ⟨s, S'⟩ := Stp.pure S x; h c dx G' H' s S' r
theorem PostF.lift {o : Out D} {Q : VK} (S : Sr K cl G H σ ρ) (h : PostF K cl W G H σ ρ (liftO o ρ) Q) : PostN K cl W σ G H o Q := by
  cases o with
  | stuck => exact h
  | ok d => exact fun p G' H' x hp hn r => let ⟨s, S'⟩ := Stp.pure S x; h p G' H' s S' (.inl hp) (fun z => by obtain ⟨o, q⟩ := S.there z; rw [hp] at q; cases q) hn r
  | exc y => exact fun c dx G' H' x r => let ⟨s, S'⟩ := Stp.pure S x; h c dx G' H' s S' r
theorem PostE.here {d : D} {v : V} {Q : VK} (S : Sr K cl G H σ ρ) (h : PostE K cl W G H σ ρ (.ok d ρ) Q) (r : R K cl G v d) : Q v H := h v G H .refl S r
end
section
variable {X : Cx} {cl : Nat → Addr} {W : WX} {a b c e : Expr} {es : List Expr} {ma mb mc : Env → Res D} {mt mu : Env → Res Bool} {ml : Env → Res (List D)} {pos : Pos}
theorem dae_nil : DAE X cl W [] (fun ρ => .ok [] ρ) := ⟨_, pa_nil, fun G H σ ρ Q S h => h [] G H .refl S .nil⟩
theorem dae_cons (ha : DE X cl W a ma) (hr : DAE X cl W es ml) (hs : starEach (a :: es) X.env = (false, eval a X.env) :: starEach es X.env := by rfl) : DAE X cl W (a :: es) (fun ρ => (ma ρ).bind fun d ρ => (ml ρ).bind fun ds ρ => .ok (d :: ds) ρ) := by
  obtain ⟨t, p, k⟩ := ha.ex
  obtain ⟨u, p2, k2⟩ := hr.ex
  refine ⟨_, pa_cons p p2 hs, fun G H σ ρ Q S h => k G H σ ρ _ S (PostE.bindL h fun d v ρ1 G1 H1 s1 S1 r h1 => ?_)⟩
  exact k2 G1 H1 σ ρ1 _ S1 (PostEL.bindL h1 fun ds vs ρ2 G2 H2 s2 S2 r2 h2 => h2 (v :: vs) G2 H2 .refl S2 (.cons (r.mono s2.g) r2))
theorem de_bin {op : Operator} {f : D → D → Out D} (ho : BinR X cl W op f) (ha : DE X cl W a ma) (hb : DE X cl W b mb) : DE X cl W (.BinOp a op b pos) (fun ρ => (ma ρ).bind fun d ρ => (mb ρ).bind fun e ρ => liftO (f d e) ρ) := by
  obtain ⟨t, p, k⟩ := ha.ex
  obtain ⟨u, p2, k2⟩ := hb.ex
  obtain ⟨r, ho, hf⟩ := ho.ex
  refine ⟨_, pe_op ho p p2, fun G H σ ρ Q S h => k G H σ ρ _ S (PostE.bind h fun d v ρ1 G1 H1 s1 S1 r1 h1 => ?_)⟩
  exact k2 G1 H1 σ ρ1 _ S1 (PostE.bind h1 fun e v2 ρ2 G2 H2 s2 S2 r2 h2 => hf σ G2 H2 v v2 d e Q S2.s (r1.mono s2.g) r2 (PostE.lift S2 h2))
theorem de_cmp {op : CmpOp} {f : D → D → Out D} (ho : CmpR X cl W op f) (ha : DE X cl W a ma) (hb : DE X cl W b mb) (hm : behindInMarks op b = false := by rfl) : DE X cl W (.Compare a [op] [b] pos) (fun ρ => (ma ρ).bind fun d ρ => (mb ρ).bind fun e ρ => liftO (f d e) ρ) := by
  obtain ⟨t, p, k⟩ := ha.ex
  obtain ⟨u, p2, k2⟩ := hb.ex
  obtain ⟨r, ho, hf⟩ := ho.ex
  refine ⟨_, pe_cmpR ho p p2 hm, fun G H σ ρ Q S h => k G H σ ρ _ S (PostE.bind h fun d v ρ1 G1 H1 s1 S1 r1 h1 => ?_)⟩
  exact k2 G1 H1 σ ρ1 _ S1 (PostE.bind h1 fun e v2 ρ2 G2 H2 s2 S2 r2 h2 => hf σ G2 H2 v v2 d e Q S2.s (r1.mono s2.g) r2 (PostE.lift S2 h2))
theorem de_ix (ha : DE X cl W a ma) (hb : DE X cl W b mb) (hs : PlainIx b := by intro _ _; rfl) : DE X cl W (.Subscript a b pos) (fun ρ => (ma ρ).bind fun d ρ => (mb ρ).bind fun e ρ => liftO (ixD d e) ρ) := by
  obtain ⟨t, p, k⟩ := ha.ex
  obtain ⟨u, p2, k2⟩ := hb.ex
  refine ⟨_, pe_ix ((ix_list.or ix_tup).or ix_str) p p2 hs, fun G H σ ρ Q S h => k G H σ ρ _ S (PostE.bind h fun d v ρ1 G1 H1 s1 S1 r1 h1 => ?_)⟩
  exact k2 G1 H1 σ ρ1 _ S1 (PostE.bind h1 fun e v2 ρ2 G2 H2 s2 S2 r2 h2 => ix_ok S2.s (r1.mono s2.g) r2 (PostE.lift S2 h2))
theorem df_lst (h : DAE X cl W es ml) : DF X cl W (.List es pos) (fun ρ => (ml ρ).bind fun ds ρ => liftO (guard (decide (ds.length ≤ sizeLine)) (.ok (.lst ds))) ρ) := by
  obtain ⟨t, p, k⟩ := h.ex
  refine ⟨_, pe_lst p, fun G H σ ρ Q S h => k G H σ ρ _ S (PostEL.bindF h fun ds vs ρ1 G1 H1 s1 S1 r h1 => ?_)⟩
  obtain ⟨c, h2⟩ := PostN.guard (PostF.lift S1 h1)
  exact ⟨by rw [r.length]; exact c, h2.newLst S1.s r⟩
theorem de_tup {k : Nat} (h : DAE X cl W es ml) : DE X cl W (.Tuple es k pos) (fun ρ => (ml ρ).bind fun ds ρ => liftO (guard (decide (ds.length ≤ sizeLine)) (.ok (.tup ds))) ρ) := by
  obtain ⟨t, p, k⟩ := h.ex
  refine ⟨_, pe_tup p, fun G H σ ρ Q S h => k G H σ ρ _ S (PostEL.bind h fun ds vs ρ1 G1 H1 s1 S1 r h1 => ?_)⟩
  obtain ⟨c, h2⟩ := guard_ok (PostE.lift S1 h1)
  exact ⟨by rw [r.length]; exact c, h2.newTup S1.s r⟩
def toBE (d : D) (ρ : Env) : Res Bool := match d with
  | .bl b => .ok b ρ
  | _ => .stuck
theorem PostEB.val {K : PySem.W.Frag} {σ : Sl} {ρ : Env} {G H : Hp} {o : Res D} {Q : Bool → Hp → Prop} (h : PostEB K cl W G H σ ρ (o.bind toBE) Q) : PostE K cl W G H σ ρ o (fun x H' => ∃ k, x = .bl k ∧ Q k H') :=
  PostE.bindB h fun d v ρ1 G1 H1 s1 S1 r h1 => by
    cases r with
    | bl k => exact ⟨k, rfl, h1 G1 H1 .refl S1⟩
    | _ => exact h1.elim
theorem db_val (ha : DE X cl W a ma) (he : ∀ whole, isTrue a X.env whole = (do let v ← whole; standAt a.pos; holding [v] (truthy v)) := by intro _; rfl) : DB X cl W a (fun ρ => (ma ρ).bind toBE) := by
  obtain ⟨t, p, k⟩ := ha.ex
  exact ⟨_, pt_val p he, fun G H σ ρ Q S h => k G H σ ρ _ S (PostEB.val h)⟩
theorem db_cmp {op : CmpOp} {f : D → D → Out D} (ho : CmpR X cl W op f) (ha : DE X cl W a ma) (hb : DE X cl W b mb) (hm : behindInMarks op b = false := by rfl) : DB X cl W (.Compare a [op] [b] pos) (fun ρ => ((ma ρ).bind fun d ρ => (mb ρ).bind fun e ρ => liftO (f d e) ρ).bind toBE) := by
  obtain ⟨t, p, k⟩ := ha.ex
  obtain ⟨u, p2, k2⟩ := hb.ex
  obtain ⟨r, ho, hf⟩ := ho.ex
  refine ⟨_, pt_cmpR ho p p2 hm, fun G H σ ρ Q S h => k G H σ ρ _ S (PostE.bind (PostEB.val h) fun d v ρ1 G1 H1 s1 S1 r1 h1 => ?_)⟩
  exact k2 G1 H1 σ ρ1 _ S1 (PostE.bind h1 fun e v2 ρ2 G2 H2 s2 S2 r2 h2 => hf σ G2 H2 v v2 d e _ S2.s (r1.mono s2.g) r2 (PostE.lift S2 h2))
theorem db_not (ha : DB X cl W a mt) : DB X cl W (.UnaryOp .Not a pos) (fun ρ => (mt ρ).bind fun c ρ => .ok (!c) ρ) := by
  obtain ⟨t, p, k⟩ := ha.ex
  exact ⟨_, pt_not p, fun G H σ ρ Q S h => k G H σ ρ _ S (PostEB.bindB h fun d ρ1 G1 H1 s1 S1 h1 => h1 G1 H1 .refl S1)⟩
structure DBW (X : Cx) (cl : Nat → Addr) (W : WX) (e : Expr) (m : Env → Res Bool) : Prop where
  ex : ∃ t : TT, PW X e t ∧ ∀ (G H : Hp) (σ : Sl) (ρ : Env) (Q : Bool → Hp → Prop), Sr X.K cl G H σ ρ → PostEB X.K cl W G H σ ρ (m ρ) Q → t σ H Q
theorem DBW.db (h : DBW X cl W e mt) : DB X cl W e mt := let ⟨t, p, k⟩ := h.ex; ⟨t, p.pt, k⟩
theorem dbw_and1 (ha : DB X cl W a mt) : DBW X cl W (.BoolOp .And [a] pos) mt := let ⟨t, p, k⟩ := ha.ex; ⟨t, pw_and1 p, k⟩
theorem dbw_or1 (ha : DB X cl W a mt) : DBW X cl W (.BoolOp .Or [a] pos) mt := let ⟨t, p, k⟩ := ha.ex; ⟨t, pw_or1 p, k⟩
theorem dbw_and {rest : List Expr} (ha : DB X cl W a mt) (hb : DBW X cl W (.BoolOp .And (b :: rest) pos) mu) : DBW X cl W (.BoolOp .And (a :: b :: rest) pos) (fun ρ => (mt ρ).bind fun c ρ => if c = true then mu ρ else .ok false ρ) := by
  obtain ⟨t, p, k⟩ := ha.ex
  obtain ⟨u, p2, k2⟩ := hb.ex
  refine ⟨_, pw_and p p2, fun G H σ ρ Q S h => k G H σ ρ _ S (PostEB.bindB h fun c ρ1 G1 H1 s1 S1 h1 => ?_)⟩
  cases c with
  | true => exact k2 G1 H1 σ ρ1 Q S1 h1
  | false => exact h1 G1 H1 .refl S1
theorem dbw_or {rest : List Expr} (ha : DB X cl W a mt) (hb : DBW X cl W (.BoolOp .Or (b :: rest) pos) mu) : DBW X cl W (.BoolOp .Or (a :: b :: rest) pos) (fun ρ => (mt ρ).bind fun c ρ => if c = true then .ok true ρ else mu ρ) := by
  obtain ⟨t, p, k⟩ := ha.ex
  obtain ⟨u, p2, k2⟩ := hb.ex
  refine ⟨_, pw_or p p2, fun G H σ ρ Q S h => k G H σ ρ _ S (PostEB.bindB h fun c ρ1 G1 H1 s1 S1 h1 => ?_)⟩
  cases c with
  | false => exact k2 G1 H1 σ ρ1 Q S1 h1
  | true => exact h1 G1 H1 .refl S1
theorem de_one {op} (ha : DE X cl W a ma) : DE X cl W (.BoolOp op [a] pos) ma := let ⟨t, p, k⟩ := ha.ex; ⟨t, pe_one p, k⟩
theorem de_and {rest : List Expr} (ha : DE X cl W a ma) (hb : DE X cl W (.BoolOp .And (b :: rest) pos) mb) : DE X cl W (.BoolOp .And (a :: b :: rest) pos) (fun ρ => ((ma ρ).bind toBE).bind fun c ρ => if c = true then mb ρ else .ok (.bl false) ρ) := by
  obtain ⟨t, p, k⟩ := ha.ex
  obtain ⟨u, p2, k2⟩ := hb.ex
  refine ⟨_, pe_and p p2, fun G H σ ρ Q S h => k G H σ ρ _ S (PostEB.val (PostEB.bind h fun c ρ1 G1 H1 s1 S1 h1 => ?_))⟩
  cases c with
  | true => exact k2 G1 H1 σ ρ1 Q S1 h1
  | false => exact h1 _ G1 H1 .refl S1 (.bl _)
theorem de_or {rest : List Expr} (ha : DE X cl W a ma) (hb : DE X cl W (.BoolOp .Or (b :: rest) pos) mb) : DE X cl W (.BoolOp .Or (a :: b :: rest) pos) (fun ρ => ((ma ρ).bind toBE).bind fun c ρ => if c = true then .ok (.bl true) ρ else mb ρ) := by
  obtain ⟨t, p, k⟩ := ha.ex
  obtain ⟨u, p2, k2⟩ := hb.ex
  refine ⟨_, pe_or p p2, fun G H σ ρ Q S h => k G H σ ρ _ S (PostEB.val (PostEB.bind h fun c ρ1 G1 H1 s1 S1 h1 => ?_))⟩
  cases c with
  | false => exact k2 G1 H1 σ ρ1 Q S1 h1
  | true => exact h1 _ G1 H1 .refl S1 (.bl _)
end

/-! ### calls that change a slot's object -/
section
variable {X : Cx} {cl : Nat → Addr} {W : WX} {k : Nat} {x y : Str} {p p2 pos : Pos} {e : Expr} {es : List Expr} {ml : Env → Res (List D)} {m0 : Env → Res D}
/-- what a call upon slot i's object gives, and makes of it -/
def callM (n i : Nat) (F : D → List D → Out (D × D)) (ds : List D) (ρ : Env) : Res D := match getO ρ i with
  | some d => if ds.length + 1 = n then (match F d ds with
    | .ok (r, d0) => .ok r (mutC ρ i d0)
    | _ => .stuck) else .stuck
  | none => .stuck
theorem callM_ok {n i : Nat} {F : D → List D → Out (D × D)} {ds : List D} {ρ ρ' : Env} {r : D} (h : callM n i F ds ρ = .ok r ρ') : ∃ d d0, getO ρ i = some d ∧ ds.length + 1 = n ∧ F d ds = .ok (r, d0) ∧ ρ' = mutC ρ i d0 := by
  unfold callM at h
  split at h
  · rename_i d q
    split at h
    · rename_i hn
      split at h
      · rename_i r' d0 q2
        cases h
        exact ⟨d, d0, q, hn, q2, rfl⟩
      · cases h
    · cases h
  · cases h
theorem callM_or {n i : Nat} {F : D → List D → Out (D × D)} {ds : List D} {ρ : Env} : callM n i F ds ρ = .stuck ∨ ∃ r ρ', callM n i F ds ρ = .ok r ρ' := by
  unfold callM
  split
  · split
    · split
      · exact .inr ⟨_, _, rfl⟩
      · exact .inl rfl
    · exact .inl rfl
  · exact .inl rfl
theorem args_M {t : TA} {n i : Nat} {fr : Bool} {F : D → List D → Out (D × D)} {σ : Sl} {ρ1 : Env} {G1 H1 : Hp} {Q : VK} {ds : List D} {vs : List V} {a : Addr} (S1 : Sr X.K cl G1 H1 σ ρ1) (ha : σ[i]? = some (some (.ref a))) (r : RL X.K cl G1 vs ds)
    (h : (match fr with | true => PostF X.K cl W G1 H1 σ ρ1 (callM n i F ds ρ1) Q | false => PostE X.K cl W G1 H1 σ ρ1 (callM n i F ds ρ1) Q)) : spM X.K cl n fr F (.ref a :: vs) H1 Q (WE W σ) := by
  have hs : callM n i F ds ρ1 ≠ .stuck := fun z => by rw [z] at h; cases fr <;> exact h
  obtain ⟨r0, ρ', q⟩ := (callM_or (n := n) (i := i) (F := F) (ds := ds) (ρ := ρ1)).resolve_left hs
  obtain ⟨d, d0, q1, q2, q3, rfl⟩ := callM_ok q
  obtain ⟨a', e, na, ta⟩ := S1.own i d (getO_at q1)
  rw [ha] at e
  cases e
  refine ⟨by rw [List.length_cons, r.length]; exact q2, G1, a, d, vs, ds, rfl, S1.s, na, ta, r, ?_⟩
  rw [q] at h
  rw [q3]
  intro G' H' g s f fr' n' t'
  obtain ⟨st, S'⟩ := mut_okG S1 q1 ha g s f fr' t'
  cases fr with
  | true => exact fun p hp hn t => h p G' H' st S' (.inl hp) (fun z => by
      have : Owned σ ρ1 p := by
        rcases z with z | ⟨j, e, z1, z2⟩
        · rcases st.nw p z with w | w
          · -- new, and owned by the same slot as ahead: then it stood
            obtain ⟨j, e, z1, z2⟩ := z
            rw [mutC_at q1] at z1
            split at z1
            · rename_i hj
              subst hj
              rcases getO_at q1 with w2 | w2
              · exact .inl ⟨j, d, w2, z2⟩
              · rw [w2] at z1; cases z1
            · exact .inl ⟨j, e, z1, z2⟩
          · exact .inl w
        · obtain ⟨d', w⟩ := st.oi j e z1
          exact .inr ⟨j, d', w, z2⟩
      obtain ⟨o, q⟩ := S1.there this
      rw [hp] at q; cases q) hn t
  | false => exact fun v r => h v G' H' st S' r
theorem de_callM (i : Nat) {n : Nat} {F : D → List D → Out (D × D)} (C : Callee X.prog X.w X.K X.mg X.base x k (spM X.K cl n false F)) (hr : Room k X.A) (hgd : X.A.guards = some []) (tk : Takes X W) (ha : DAE X cl W es ml)
    (hN : X.N[i]? = some y := by rfl) (hv : Vis X.env.scope y := by first | exact Or.inl rfl | exact Or.inr (Or.inl rfl) | exact Or.inr (Or.inr rfl)) (hd : (y == ("__debug__" : Str)) = false := by decide) (hcd : (y == ("__classdict__" : Str)) = false := by decide)
    (hg : Gl X x := by rfl) (hdb : (x == ("__debug__" : Str)) = false := by decide) (he : starEach (.Name y p2 :: es) X.env = (false, eval (.Name y p2) X.env) :: starEach es X.env := by rfl) (hpl : (backTo pos (starEach es X.env)).any (·.1) = false := by rfl) :
    DE X cl W (.Call (.Name x p) (.Name y p2 :: es) [] pos) (fun ρ => if (getO ρ i).isSome = true then (ml ρ).bind fun ds ρ => callM n i F ds ρ else .stuck) := by
  obtain ⟨f, fd, ps, FG, hm, hk, hb⟩ := C.ex
  obtain ⟨t, pa, ka⟩ := ha.ex
  refine ⟨_, pe_callG FG hr hgd hm hk hb .nil tk (pa_cons (pe_var hN hv hd hcd) pa he) hg hdb he hpl, fun G H σ ρ Q S h => ?_⟩
  split at h
  · rename_i hi
    obtain ⟨d, q⟩ := Option.isSome_iff_exists.mp hi
    obtain ⟨a, e, na, ta⟩ := S.own i d (getO_at q)
    refine ⟨.ref a, e, ka G H σ ρ _ S (PostEL.bind h fun ds vs ρ1 G1 H1 s1 S1 r h1 => ?_)⟩
    show spM X.K cl n false F ((V.ref a :: vs) ++ []) H1 Q (WE W σ)
    rw [List.append_nil]
    exact args_M (t := t) (fr := false) S1 e r h1
  · exact h.elim
theorem df_callM (i : Nat) {n : Nat} {F : D → List D → Out (D × D)} (C : Callee X.prog X.w X.K X.mg X.base x k (spM X.K cl n true F)) (hr : Room k X.A) (hgd : X.A.guards = some []) (tk : Takes X W) (ha : DAE X cl W es ml)
    (hN : X.N[i]? = some y := by rfl) (hv : Vis X.env.scope y := by first | exact Or.inl rfl | exact Or.inr (Or.inl rfl) | exact Or.inr (Or.inr rfl)) (hd : (y == ("__debug__" : Str)) = false := by decide) (hcd : (y == ("__classdict__" : Str)) = false := by decide)
    (hg : Gl X x := by rfl) (hdb : (x == ("__debug__" : Str)) = false := by decide) (he : starEach (.Name y p2 :: es) X.env = (false, eval (.Name y p2) X.env) :: starEach es X.env := by rfl) (hpl : (backTo pos (starEach es X.env)).any (·.1) = false := by rfl) :
    DF X cl W (.Call (.Name x p) (.Name y p2 :: es) [] pos) (fun ρ => if (getO ρ i).isSome = true then (ml ρ).bind fun ds ρ => callM n i F ds ρ else .stuck) := by
  obtain ⟨f, fd, ps, FG, hm, hk, hb⟩ := C.ex
  obtain ⟨t, pa, ka⟩ := ha.ex
  refine ⟨_, pe_callG FG hr hgd hm hk hb .nil tk (pa_cons (pe_var hN hv hd hcd) pa he) hg hdb he hpl, fun G H σ ρ Q S h => ?_⟩
  split at h
  · rename_i hi
    obtain ⟨d, q⟩ := Option.isSome_iff_exists.mp hi
    obtain ⟨a, e, na, ta⟩ := S.own i d (getO_at q)
    refine ⟨.ref a, e, ka G H σ ρ _ S (PostEL.bindF h fun ds vs ρ1 G1 H1 s1 S1 r h1 => ?_)⟩
    show spM X.K cl n true F ((V.ref a :: vs) ++ []) H1 Q (WE W σ)
    rw [List.append_nil]
    exact args_M (t := t) (fr := true) S1 e r h1
  · exact h.elim
/-- a def called with effects in its arguments, which it does not change itself -/
theorem de_call {n : Nat} {fr : Bool} {F : List D → Out D} (C : Callee X.prog X.w X.K X.mg X.base x k (spP X.K cl n fr F)) (hr : Room k X.A) (hgd : X.A.guards = some []) (tk : Takes X W) (ha : DAE X cl W (e :: es) ml)
    (hg : Gl X x := by rfl) (hdb : (x == ("__debug__" : Str)) = false := by decide) (he : starEach (e :: es) X.env = (false, eval e X.env) :: starEach es X.env := by rfl) (hpl : (backTo pos (starEach es X.env)).any (·.1) = false := by rfl) :
    DE X cl W (.Call (.Name x p) (e :: es) [] pos) (fun ρ => (ml ρ).bind fun ds ρ => liftO (guard (decide (ds.length = n)) (F ds)) ρ) := by
  obtain ⟨f, fd, ps, FG, hm, hk, hb⟩ := C.ex
  obtain ⟨t, pa, ka⟩ := ha.ex
  refine ⟨_, pe_callG FG hr hgd hm hk hb .nil tk pa hg hdb he hpl, fun G H σ ρ Q S h => ka G H σ ρ _ S (PostEL.bind h fun ds vs ρ1 G1 H1 s1 S1 r h1 => ?_)⟩
  obtain ⟨c, h2⟩ := guard_ok (PostE.lift S1 h1)
  rw [List.append_nil]
  exact ⟨by rw [r.length]; exact c, G1, ds, S1.s, r, PostC.post (n := n) h2⟩
theorem df_call {n : Nat} {F : List D → Out D} (C : Callee X.prog X.w X.K X.mg X.base x k (spP X.K cl n true F)) (hr : Room k X.A) (hgd : X.A.guards = some []) (tk : Takes X W) (ha : DAE X cl W (e :: es) ml)
    (hg : Gl X x := by rfl) (hdb : (x == ("__debug__" : Str)) = false := by decide) (he : starEach (e :: es) X.env = (false, eval e X.env) :: starEach es X.env := by rfl) (hpl : (backTo pos (starEach es X.env)).any (·.1) = false := by rfl) :
    DF X cl W (.Call (.Name x p) (e :: es) [] pos) (fun ρ => (ml ρ).bind fun ds ρ => liftO (guard (decide (ds.length = n)) (F ds)) ρ) := by
  obtain ⟨f, fd, ps, FG, hm, hk, hb⟩ := C.ex
  obtain ⟨t, pa, ka⟩ := ha.ex
  refine ⟨_, pe_callG FG hr hgd hm hk hb .nil tk pa hg hdb he hpl, fun G H σ ρ Q S h => ka G H σ ρ _ S (PostEL.bindF h fun ds vs ρ1 G1 H1 s1 S1 r h1 => ?_)⟩
  obtain ⟨c, h2⟩ := PostN.guard (PostF.lift S1 h1)
  rw [List.append_nil]
  exact ⟨by rw [r.length]; exact c, G1, ds, S1.s, r, PostC.postN (n := n) h2⟩
/-- a def called upon an object made for it: what the def makes of it is dropped -/
def callT (F : D → List D → Out (D × D)) (d : D) (ρ : Env) : Res D := match F d [] with
  | .ok (r, _) => .ok r ρ
  | _ => .stuck
theorem de_callT {F : D → List D → Out (D × D)} (C : Callee X.prog X.w X.K X.mg X.base x k (spM X.K cl 1 false F)) (hr : Room k X.A) (hgd : X.A.guards = some []) (tk : Takes X W) (ha : DF X cl W e m0)
    (hg : Gl X x := by rfl) (hdb : (x == ("__debug__" : Str)) = false := by decide) (he : starEach [e] X.env = (false, eval e X.env) :: starEach [] X.env := by rfl) (hpl : (backTo pos (starEach [] X.env)).any (·.1) = false := by rfl) :
    DE X cl W (.Call (.Name x p) [e] [] pos) (fun ρ => (m0 ρ).bind fun d ρ => callT F d ρ) := by
  obtain ⟨f, fd, ps, FG, hm, hk, hb⟩ := C.ex
  obtain ⟨t, pa, ka⟩ := ha.ex
  refine ⟨_, pe_callG FG hr hgd hm hk hb .nil tk (pa_cons pa pa_nil he) hg hdb he hpl, fun G H σ ρ Q S h => ka G H σ ρ _ S ?_⟩
  cases q : m0 ρ with
  | stuck => rw [q] at h; exact h
  | exc y ρ' => rw [q] at h; exact h
  | ok d ρ1 =>
    rw [q, Res.bind_ok] at h
    intro a G1 H1 s1 S1 hp ho hn ta
    unfold callT at h
    split at h
    · rename_i r d0 q2
      refine ⟨rfl, G1, a, d, [], [], rfl, S1.s, hn, ta, .nil, ?_⟩
      rw [q2]
      intro G' H' g s f fr' n' t' v rv
      have still : ∀ {b : Addr}, G1 b = none → (∃ o, H1 b = some o) → G' b = none := fun {b} q ⟨o, q'⟩ => by
        cases z : G' b with
        | none => rfl
        | some u =>
          have := f b q (by rw [z]; simp)
          rw [this] at q'; cases q'
      refine h v G' H' ⟨s1.g.trans g, fun b z z' => ?_, fun b o z nb => ?_, s1.nw, s1.io, s1.oi, s1.len⟩ ⟨s, S1.len, fun i d' z => ?_, fun i d' z => ?_, S1.inj⟩ rv
      · cases w : G1 b with
        | some o => exact s1.gf b z (by rw [w]; simp)
        | none => exact s1.fresh S1 (.inl (f b w z'))
      · refine fr' b o ?_ (s1.fr b o z nb)
        rintro rfl
        rcases hp with hp | hp
        · rw [z] at hp; cases hp
        · exact nb (.inl hp)
      · obtain ⟨v, w1, w2⟩ := S1.sh i d' z
        exact ⟨v, w1, w2.mono g⟩
      · obtain ⟨b, w1, w2, w3⟩ := S1.own i d' z
        have hb : b ≠ a := by
          rintro rfl
          rcases z with z | z
          · exact ho (.inl ⟨i, d', z, w1⟩)
          · exact ho (.inr ⟨i, d', z, w1⟩)
        exact ⟨b, w1, still w2 w3.there, w3.mono g fun o z => fr' b o hb z⟩
    · exact h.elim
end

/-! ### lists changed -/
section
variable {X : Cx} {cl : Nat → Addr} {W : WX} {fr : Bool} {k : Nat} {x y : Str} {p p2 pos apos cpos : Pos} {e e2 : Expr} {m m2 : Env → Res D}
theorem getO_list {K : PySem.W.Frag} {G H : Hp} {σ : Sl} {ρ : Env} {i : Nat} {ds : List D} (S : Sr K cl G H σ ρ) (h : getO ρ i = some (.lst ds)) : ∃ a xs, σ[i]? = some (some (.ref a)) ∧ G a = none ∧ H a = some (.lst xs) ∧ RL K cl G xs ds := by
  obtain ⟨a, e, n, t⟩ := S.own i _ (getO_at h)
  cases t with
  | lst h1 r => exact ⟨a, _, e, n, h1, r⟩
theorem list_upd {K : PySem.W.Frag} {G H : Hp} {σ : Sl} {ρ : Env} {i : Nat} {ds ds' : List D} {a : Addr} {xs' : List V} (S : Sr K cl G H σ ρ) (h : getO ρ i = some (.lst ds)) (e : σ[i]? = some (some (.ref a))) (r : RL K cl G xs' ds') :
    Stp G H σ ρ G (upd H a (.lst xs')) σ (mutC ρ i (.lst ds')) ∧ Sr K cl G (upd H a (.lst xs')) σ (mutC ρ i (.lst ds')) :=
  mut_ok S h e (fun b o hb q => by rw [upd_ne hb]; exact q) (.lst upd_same r)
def appM (i : Nat) (d : D) (ρ : Env) : SRes := match getO ρ i with
  | some (.lst ds) => if ds.length < sizeLine then .nx (mutC ρ i (.lst (ds ++ [d]))) else .stuck
  | _ => .stuck
def isLst : Option D → Bool
  | some (.lst _) => true
  | _ => false
theorem isLst_some {o : Option D} (h : isLst o = true) : ∃ ds, o = some (.lst ds) := by
  cases o with
  | none => cases h
  | some d => cases d <;> first | exact ⟨_, rfl⟩ | cases h
/-- x.append(e) -/
theorem ds_append (i : Nat) (he : DE X cl W e m) (hN : X.N[i]? = some y := by rfl) (hv : Vis X.env.scope y := by first | exact Or.inl rfl | exact Or.inr (Or.inl rfl) | exact Or.inr (Or.inr rfl)) (hd : (y == ("__debug__" : Str)) = false := by decide) (hcd : (y == ("__classdict__" : Str)) = false := by decide)
    (hbase : attributeBase (.Name y p2) "append" X.env (eval (.Name y p2) X.env) = eval (.Name y p2) X.env := by rfl)
    (hfew : ((backTo cpos (starEach [e] X.env)).all (fun x => !x.1) && (backToKw cpos (keywordEach [] X.env)).all (fun x => x.1.isSome) && decide ([e].length + ([] : List Keyword).length + (if ([] : List Keyword).isEmpty then 0 else 1) < 30)) = true := by rfl)
    (hline : (apos.endLine == cpos.line) = true := by rfl) (hs : starEach [e] X.env = (false, eval e X.env) :: starEach [] X.env := by rfl) (hplain : (backTo cpos (starEach [] X.env)).any (·.1) = false := by rfl)
    (hsw : swapsWith (.Call (.Attribute (.Name y p2) "append" apos) [e] [] cpos) none pos.line X.env = pure false := by rfl) :
    DS X cl W fr (.Expr (.Call (.Attribute (.Name y p2) "append" apos) [e] [] cpos) pos) (fun ρ => if isLst (getO ρ i) = true then (m ρ).fin fun d ρ => appM i d ρ else .stuck) := by
  obtain ⟨t, pe, ke⟩ := he.ex
  refine ⟨_, ps_expr (pe_bm PySem.F.plainAttrs_list PySem.F.slot_list_append PySem.F.type_list_append mt_append (pe_var hN hv hd hcd) (pa_cons pe pa_nil hs) hbase hfew hline hs hplain) hsw, fun G H σ ρ D S h => ?_⟩
  split at h
  · rename_i hi
    obtain ⟨ds, q⟩ := isLst_some hi
    obtain ⟨a, xs, e, n, hl, rl⟩ := getO_list S q
    refine ⟨.ref a, e, .inl ⟨rfl, xs, .of hl⟩, ke G H σ ρ _ S (PostS.val h fun d v ρ1 G1 H1 s1 S1 r h1 => ?_)⟩
    unfold appM at h1
    split at h1
    · rename_i ds' q'
      obtain ⟨a', xs', e', n', hl', rl'⟩ := getO_list S1 q'
      rw [e] at e'
      cases e'
      split at h1
      · rename_i hz
        obtain ⟨st, S2⟩ := list_upd S1 q' e (rl'.append (.cons r .nil))
        exact ⟨a, xs', v, rfl, rfl, hl', by rw [rl'.length]; exact hz, h1 σ G1 _ (s1.trans S1 st) S2⟩
      · exact h1.elim
    · exact h1.elim
  · exact h.elim
/-- x[e2] = e -/
def setM (i : Nat) (d : D) (j : D) (ρ : Env) : SRes := match getO ρ i, j with
  | some (.lst ds), .int z => (match ixN ds.length z with
    | some n => .nx (mutC ρ i (.lst (ds.set n d)))
    | none => .stuck)
  | _, _ => .stuck
theorem ds_setix (i : Nat) (he : DE X cl W e m) (hj : DE X cl W e2 m2) (hN : X.N[i]? = some y := by rfl) (hv : Vis X.env.scope y := by first | exact Or.inl rfl | exact Or.inr (Or.inl rfl) | exact Or.inr (Or.inr rfl)) (hd : (y == ("__debug__" : Str)) = false := by decide) (hcd : (y == ("__classdict__" : Str)) = false := by decide)
    (ha : ∀ v, assign (.Subscript (.Name y p2) e2 apos) X.env v = (do
      let ov ← holding [v] (eval (.Name y p2) X.env)
      let iv ← holding [v, ov] (eval e2 X.env)
      standAt apos
      holding [v, ov, iv] (setItem ov iv v)
      release [v, ov, iv] []) := by intro _; rfl)
    (hs : swapsWithSole [.Subscript (.Name y p2) e2 apos] e pos.line X.env = pure false := by rfl) (hw : swappedStores [.Subscript (.Name y p2) e2 apos] e X.env = pure none := by rfl)
    (h1 : (assignEach [.Subscript (.Name y p2) e2 apos] X.env).map (·.2) = [assign (.Subscript (.Name y p2) e2 apos) X.env] := by rfl) :
    DS X cl W fr (.Assign [.Subscript (.Name y p2) e2 apos] e pos) (fun ρ => (m ρ).fin fun d ρ => if isLst (getO ρ i) = true then (m2 ρ).fin fun j ρ => setM i d j ρ else .stuck) := by
  obtain ⟨t, pe, ke⟩ := he.ex
  obtain ⟨u, pj, kj⟩ := hj.ex
  refine ⟨_, ps_asg pe (pg_sub (pe_var hN hv hd hcd) pj set_list ha) hs hw h1, fun G H σ ρ D S h => ke G H σ ρ _ S (PostS.val h fun d v ρ1 G1 H1 s1 S1 r h1 => ?_)⟩
  split at h1
  · rename_i hi
    obtain ⟨ds, q⟩ := isLst_some hi
    obtain ⟨a, xs, e, n, hl, rl⟩ := getO_list S1 q
    refine ⟨.ref a, e, kj G1 H1 σ ρ1 _ S1 (PostS.val (PostS.on s1 S1 h1) fun dj vj ρ2 G2 H2 s2 S2 rj h2 => ?_)⟩
    unfold setM at h2
    split at h2
    · rename_i ds' z q'
      obtain ⟨a', xs', e', n', hl', rl'⟩ := getO_list S2 q'
      rw [e] at e'
      cases e'
      cases rj
      split at h2
      · rename_i nn hz
        obtain ⟨st, S3⟩ := list_upd S2 q' e (RL.set (r.mono s2.g) nn rl')
        exact ⟨a, xs', _, nn, rfl, rfl, hl', by rw [rl'.length]; exact hz, h2 σ G2 _ (s2.trans S2 st) S3⟩
      · exact h2.elim
    · exact h2.elim
  · exact h1.elim
/-- x.pop(e) -/
def popM (i : Nat) (j : D) (ρ : Env) : Res D := match getO ρ i, j with
  | some (.lst ds), .int z => if -(2 ^ 63) ≤ z ∧ z < 2 ^ 63 then (match seqIndex? z ds.length with
    | some n => (match ds[n]? with | some d => .ok d (mutC ρ i (.lst (ds.eraseIdx n))) | none => .stuck)
    | none => .stuck) else .stuck
  | _, _ => .stuck
theorem de_popAt (i : Nat) (he : DE X cl W e m) (hN : X.N[i]? = some y := by rfl) (hv : Vis X.env.scope y := by first | exact Or.inl rfl | exact Or.inr (Or.inl rfl) | exact Or.inr (Or.inr rfl)) (hd : (y == ("__debug__" : Str)) = false := by decide) (hcd : (y == ("__classdict__" : Str)) = false := by decide)
    (hbase : attributeBase (.Name y p2) "pop" X.env (eval (.Name y p2) X.env) = eval (.Name y p2) X.env := by rfl)
    (hfew : ((backTo cpos (starEach [e] X.env)).all (fun x => !x.1) && (backToKw cpos (keywordEach [] X.env)).all (fun x => x.1.isSome) && decide ([e].length + ([] : List Keyword).length + (if ([] : List Keyword).isEmpty then 0 else 1) < 30)) = true := by rfl)
    (hline : (apos.endLine == cpos.line) = true := by rfl) (hs : starEach [e] X.env = (false, eval e X.env) :: starEach [] X.env := by rfl) (hplain : (backTo cpos (starEach [] X.env)).any (·.1) = false := by rfl) :
    DE X cl W (.Call (.Attribute (.Name y p2) "pop" apos) [e] [] cpos) (fun ρ => if isLst (getO ρ i) = true then (m ρ).bind fun d ρ => popM i d ρ else .stuck) := by
  obtain ⟨t, pe, ke⟩ := he.ex
  refine ⟨_, pe_bm PySem.F.plainAttrs_list PySem.F.slot_list_pop PySem.F.type_list_pop mt_popAt (pe_var hN hv hd hcd) (pa_cons pe pa_nil hs) hbase hfew hline hs hplain, fun G H σ ρ Q S h => ?_⟩
  split at h
  · rename_i hi
    obtain ⟨ds, q⟩ := isLst_some hi
    obtain ⟨a, xs, e, n, hl, rl⟩ := getO_list S q
    refine ⟨.ref a, e, .inl ⟨rfl, xs, .of hl⟩, ke G H σ ρ _ S (PostE.bind h fun d v ρ1 G1 H1 s1 S1 r h1 => ?_)⟩
    unfold popM at h1
    split at h1
    · rename_i ds' z q'
      obtain ⟨a', xs', e', n', hl', rl'⟩ := getO_list S1 q'
      rw [e] at e'
      cases e'
      cases r
      split at h1
      · rename_i hz
        split at h1
        · rename_i nn hx
          split at h1
          · rename_i d hd
            obtain ⟨v, hv, rv⟩ := rl'.get hd
            obtain ⟨st, S2⟩ := list_upd S1 q' e (RL.eraseIdx nn rl')
            exact ⟨a, xs', _, nn, v, rfl, rfl, hl', hz.1, hz.2, by rw [rl'.length]; exact hx, hv, h1 v G1 _ st S2 rv⟩
          · exact h1.elim
        · exact h1.elim
      · exact h1.elim
    · exact h1.elim
  · exact h.elim
/-- x.pop() -/
def popL (i : Nat) (ρ : Env) : Res D := match getO ρ i with
  | some (.lst ds) => (match ds[ds.length - 1]? with | some d => .ok d (mutC ρ i (.lst ds.dropLast)) | none => .stuck)
  | _ => .stuck
theorem de_pop (i : Nat) (hN : X.N[i]? = some y := by rfl) (hv : Vis X.env.scope y := by first | exact Or.inl rfl | exact Or.inr (Or.inl rfl) | exact Or.inr (Or.inr rfl)) (hd : (y == ("__debug__" : Str)) = false := by decide) (hcd : (y == ("__classdict__" : Str)) = false := by decide)
    (hbase : attributeBase (.Name y p2) "pop" X.env (eval (.Name y p2) X.env) = eval (.Name y p2) X.env := by rfl) (hline : (apos.endLine == cpos.line) = true := by rfl) :
    DE X cl W (.Call (.Attribute (.Name y p2) "pop" apos) [] [] cpos) (popL i) := by
  refine ⟨_, pe_bm0 PySem.F.plainAttrs_list PySem.F.slot_list_pop PySem.F.type_list_pop mt_pop (pe_var hN hv hd hcd) hbase hline, fun G H σ ρ Q S h => ?_⟩
  unfold popL at h
  split at h
  · rename_i ds q
    obtain ⟨a, xs, e, n, hl, rl⟩ := getO_list S q
    split at h
    · rename_i d hd
      obtain ⟨v, hv, rv⟩ := rl.get hd
      obtain ⟨st, S2⟩ := list_upd S q e rl.dropLast
      exact ⟨.ref a, e, .inl ⟨rfl, xs, .of hl⟩, a, xs, v, rfl, rfl, hl, by rw [rl.length]; exact hv, h v G _ st S2 rv⟩
    · exact h.elim
  · exact h.elim
theorem ds_reverse (i : Nat) (hN : X.N[i]? = some y := by rfl) (hv : Vis X.env.scope y := by first | exact Or.inl rfl | exact Or.inr (Or.inl rfl) | exact Or.inr (Or.inr rfl)) (hd : (y == ("__debug__" : Str)) = false := by decide) (hcd : (y == ("__classdict__" : Str)) = false := by decide)
    (hbase : attributeBase (.Name y p2) "reverse" X.env (eval (.Name y p2) X.env) = eval (.Name y p2) X.env := by rfl) (hline : (apos.endLine == cpos.line) = true := by rfl)
    (hsw : swapsWith (.Call (.Attribute (.Name y p2) "reverse" apos) [] [] cpos) none pos.line X.env = pure false := by rfl) :
    DS X cl W fr (.Expr (.Call (.Attribute (.Name y p2) "reverse" apos) [] [] cpos) pos) (fun ρ => match getO ρ i with | some (.lst ds) => .nx (mutC ρ i (.lst ds.reverse)) | _ => .stuck) := by
  refine ⟨_, ps_expr (pe_bm0 PySem.F.plainAttrs_list PySem.F.slot_list_reverse PySem.F.type_list_reverse mt_reverse (pe_var hN hv hd hcd) hbase hline) hsw, fun G H σ ρ D S h => ?_⟩
  split at h
  · rename_i ds q
    obtain ⟨a, xs, e, n, hl, rl⟩ := getO_list S q
    obtain ⟨st, S2⟩ := list_upd S q e rl.reverse
    exact ⟨.ref a, e, .inl ⟨rfl, xs, .of hl⟩, a, xs, rfl, rfl, hl, h σ G _ st S2⟩
  · exact h.elim
end
end Vx
end
section
set_option maxRecDepth 100000
set_option maxHeartbeats 1000000
/-! Vx9: built-in functions; texts of objects; sorting; order; comprehensions with changes. -/
namespace Vx
open PySem PySem.Spec PyProof.Rows L2
open Out (guard)

/-! ### whole numbers in a list -/
def ints? : List D → Option (List Int)
  | [] => some []
  | .int i :: ds => (ints? ds).map (i :: ·)
  | _ :: _ => none
theorem ints?_some : ∀ {ds : List D} {ns : List Int}, ints? ds = some ns → ds = ns.map .int
  | [], ns, h => by cases h; rfl
  | d :: ds, ns, h => by
    cases d <;> try cases h
    rename_i i
    have h' : (ints? ds).map (i :: ·) = some ns := h
    obtain ⟨ms, h1, rfl⟩ := Option.map_eq_some_iff.mp h'
    rw [ints?_some h1]; rfl
@[simp] theorem ints?_map : ∀ ns : List Int, ints? (ns.map .int) = some ns
  | [] => rfl
  | n :: ns => by
    show (ints? (ns.map .int)).map (n :: ·) = _
    rw [ints?_map ns]; rfl
def maxOf : List Int → Int
  | [] => 0
  | n :: ns => ns.foldl max n
def minOf : List Int → Int
  | [] => 0
  | n :: ns => ns.foldl min n
theorem foldl_max_ge : ∀ (ns : List Int) (a : Int), a ≤ ns.foldl max a ∧ ∀ x ∈ ns, x ≤ ns.foldl max a
  | [], a => ⟨Int.le_refl _, fun x h => by cases h⟩
  | n :: ns, a => by
    obtain ⟨h1, h2⟩ := foldl_max_ge ns (max a n)
    refine ⟨Int.le_trans (Int.le_max_left a n) h1, fun x hx => ?_⟩
    rcases List.mem_cons.mp hx with rfl | hx
    · exact Int.le_trans (Int.le_max_right a x) h1
    · exact h2 x hx
theorem foldl_max_mem : ∀ (ns : List Int) (a : Int), ns.foldl max a = a ∨ ns.foldl max a ∈ ns
  | [], a => .inl rfl
  | n :: ns, a => by
    show ns.foldl max (max a n) = a ∨ ns.foldl max (max a n) ∈ n :: ns
    rcases foldl_max_mem ns (max a n) with h | h
    · rw [h]
      rcases (show max a n = a ∨ max a n = n by omega) with e | e
      · exact .inl e
      · exact .inr (by rw [e]; exact List.mem_cons_self)
    · exact .inr (List.mem_cons_of_mem _ h)
theorem maxOf_is {ns : List Int} {m : Int} (hm : m ∈ ns) (h : ∀ y ∈ ns, y ≤ m) : m = maxOf ns := by
  cases ns with
  | nil => cases hm
  | cons n ns =>
    show m = ns.foldl max n
    have h1 := foldl_max_ge ns n
    have h2 : m ≤ ns.foldl max n := by
      rcases List.mem_cons.mp hm with rfl | hm
      · exact h1.1
      · exact h1.2 m hm
    have h3 : ns.foldl max n ≤ m := by
      rcases foldl_max_mem ns n with e | e
      · rw [e]; exact h n List.mem_cons_self
      · exact h _ (List.mem_cons_of_mem _ e)
    omega
theorem foldl_min_le : ∀ (ns : List Int) (a : Int), ns.foldl min a ≤ a ∧ ∀ x ∈ ns, ns.foldl min a ≤ x
  | [], a => ⟨Int.le_refl _, fun x h => by cases h⟩
  | n :: ns, a => by
    obtain ⟨h1, h2⟩ := foldl_min_le ns (min a n)
    refine ⟨Int.le_trans h1 (Int.min_le_left a n), fun x hx => ?_⟩
    rcases List.mem_cons.mp hx with rfl | hx
    · exact Int.le_trans h1 (Int.min_le_right a x)
    · exact h2 x hx
theorem foldl_min_mem : ∀ (ns : List Int) (a : Int), ns.foldl min a = a ∨ ns.foldl min a ∈ ns
  | [], a => .inl rfl
  | n :: ns, a => by
    show ns.foldl min (min a n) = a ∨ ns.foldl min (min a n) ∈ n :: ns
    rcases foldl_min_mem ns (min a n) with h | h
    · rw [h]
      rcases (show min a n = a ∨ min a n = n by omega) with e | e
      · exact .inl e
      · exact .inr (by rw [e]; exact List.mem_cons_self)
    · exact .inr (List.mem_cons_of_mem _ h)
theorem minOf_is {ns : List Int} {m : Int} (hm : m ∈ ns) (h : ∀ y ∈ ns, m ≤ y) : m = minOf ns := by
  cases ns with
  | nil => cases hm
  | cons n ns =>
    show m = ns.foldl min n
    have h1 := foldl_min_le ns n
    have h2 : ns.foldl min n ≤ m := by
      rcases List.mem_cons.mp hm with rfl | hm
      · exact h1.1
      · exact h1.2 m hm
    have h3 : m ≤ ns.foldl min n := by
      rcases foldl_min_mem ns n with e | e
      · rw [e]; exact h n List.mem_cons_self
      · exact h _ (List.mem_cons_of_mem _ e)
    omega
def maxD : List D → Out D
  | [.int i, .int j] => .ok (.int (if j > i then j else i))
  | [d] => (itemsL d).bind fun ds => (Out.ofOpt (ints? ds)).bind fun ns => guard (decide (0 < ns.length)) (.ok (.int (maxOf ns)))
  | _ => .stuck
def minD : List D → Out D
  | [.int i, .int j] => .ok (.int (if j < i then j else i))
  | [d] => (itemsL d).bind fun ds => (Out.ofOpt (ints? ds)).bind fun ns => guard (decide (0 < ns.length)) (.ok (.int (minOf ns)))
  | _ => .stuck
def sumD (d : D) : Out D := (itemsL d).bind fun ds => (Out.ofOpt (ints? ds)).bind fun ns => .ok (.int ns.sum)
def intD : D → Out D
  | .int i => .ok (.int i)
  | .bl b => .ok (.int (if b then 1 else 0))
  | _ => .stuck
section
variable {X : Cx} {cl : Nat → Addr} {W : WX} {a b c e : Expr} {es : List Expr} {ma mb : PEnv → Out D} {ml : PEnv → Out (List D)} {pos p apos : Pos}
theorem ofOpt_ok {α : Type} {σ : Sl} {G H : Hp} {o : Option α} {f : α → Out D} {Q : VK} (h : Post X.K cl W σ G H ((Out.ofOpt o).bind f) Q) : ∃ a, o = some a ∧ Post X.K cl W σ G H (f a) Q := by
  cases o with
  | none => exact h.elim
  | some a => exact ⟨a, rfl, h⟩
theorem dp_max (hm : X.mg "max" = none) (hc : X.calm = true) (ha : DA X cl W (e :: es) ml) (hg : Gl X "max" := by rfl) (he : starEach (e :: es) X.env = (false, eval e X.env) :: starEach es X.env := by rfl) (hpl : (backTo pos (starEach es X.env)).any (·.1) = false := by rfl) :
    DP X cl W (.Call (.Name "max" p) (e :: es) [] pos) (fun ρ => (ml ρ).bind maxD) :=
  dp_callB ((call_max2 hc).or (cr_max hc)) (fun σ G H vs ds Q s r h => by
    unfold maxD at h
    split at h
    · cases r with
      | cons r1 r2 =>
        cases r2 with
        | cons r2 r3 =>
          cases r1; cases r2; cases r3
          exact .inl ⟨_, _, rfl, h.here s (.int _)⟩
    · cases r with
      | cons r1 r2 =>
        cases r2
        obtain ⟨l, xs, ds, rfl, hs, rl, h2⟩ := Post.items r1 h
        obtain ⟨ns, hn, h3⟩ := ofOpt_ok h2
        obtain ⟨h4, h5⟩ := guard_ok h3
        rw [ints?_some hn] at rl
        rw [RL.of_ints rl] at hs
        refine .inr ⟨l, ns, rfl, hs H s, h4, fun m hm hu => ?_⟩
        rw [maxOf_is hm hu]
        exact h5.here s (.int _)
    · exact h.elim) hm boot_max ha hg (by decide) (by decide) he hpl
theorem dp_min (hm : X.mg "min" = none) (hc : X.calm = true) (ha : DA X cl W (e :: es) ml) (hg : Gl X "min" := by rfl) (he : starEach (e :: es) X.env = (false, eval e X.env) :: starEach es X.env := by rfl) (hpl : (backTo pos (starEach es X.env)).any (·.1) = false := by rfl) :
    DP X cl W (.Call (.Name "min" p) (e :: es) [] pos) (fun ρ => (ml ρ).bind minD) :=
  dp_callB ((call_min2 hc).or (cr_min hc)) (fun σ G H vs ds Q s r h => by
    unfold minD at h
    split at h
    · cases r with
      | cons r1 r2 =>
        cases r2 with
        | cons r2 r3 =>
          cases r1; cases r2; cases r3
          exact .inl ⟨_, _, rfl, h.here s (.int _)⟩
    · cases r with
      | cons r1 r2 =>
        cases r2
        obtain ⟨l, xs, ds, rfl, hs, rl, h2⟩ := Post.items r1 h
        obtain ⟨ns, hn, h3⟩ := ofOpt_ok h2
        obtain ⟨h4, h5⟩ := guard_ok h3
        rw [ints?_some hn] at rl
        rw [RL.of_ints rl] at hs
        refine .inr ⟨l, ns, rfl, hs H s, h4, fun m hm hu => ?_⟩
        rw [minOf_is hm hu]
        exact h5.here s (.int _)
    · exact h.elim) hm boot_min ha hg (by decide) (by decide) he hpl
theorem dp_sum (hm : X.mg "sum" = none) (hc : X.calm = true) (ha : DA X cl W [a] ml) (hg : Gl X "sum" := by rfl) (he : starEach [a] X.env = (false, eval a X.env) :: starEach [] X.env := by rfl) :
    DP X cl W (.Call (.Name "sum" p) [a] [] pos) (fun ρ => (ml ρ).bind (one1 sumD)) :=
  dp_callB (cr_sum hc) (fun σ G H vs ds Q s r h => by
    obtain ⟨v, d, rfl, rfl, rv, h⟩ := one1_ok r h
    obtain ⟨l, xs, ds, rfl, hs, rl, h2⟩ := Post.items rv h
    obtain ⟨ns, hn, h3⟩ := ofOpt_ok h2
    rw [ints?_some hn] at rl
    rw [RL.of_ints rl] at hs
    exact ⟨l, ns, rfl, hs H s, h3.here s (.int _)⟩) hm boot_sum ha hg (by decide) (by decide) he
theorem dp_int1 (hm : X.mg "int" = none) (ha : DA X cl W [a] ml) (hg : Gl X "int" := by rfl) (he : starEach [a] X.env = (false, eval a X.env) :: starEach [] X.env := by rfl) :
    DP X cl W (.Call (.Name "int" p) [a] [] pos) (fun ρ => (ml ρ).bind (one1 intD)) :=
  dp_callTy call_int1 (fun σ G H vs ds Q s r h => by
    obtain ⟨v, d, rfl, rfl, rv, h⟩ := one1_ok r h
    cases d <;> try exact h.elim
    · rw [rv.toBl]; exact .inr ⟨_, rfl, h.here s (.int _)⟩
    · rw [rv.toInt]; exact .inl ⟨_, rfl, h.here s (.int _)⟩) hm PyProof.Rows.boot_int ha hg (by decide) (by decide) he
theorem dp_abs (hm : X.mg "abs" = none) (ha : DA X cl W [a] ml) (hg : Gl X "abs" := by rfl) (he : starEach [a] X.env = (false, eval a X.env) :: starEach [] X.env := by rfl) :
    DP X cl W (.Call (.Name "abs" p) [a] [] pos) (fun ρ => (ml ρ).bind (one1 fun d => match d with | .int i => .ok (.int (if i < 0 then -i else i)) | _ => .stuck)) :=
  dp_callB call_abs (fun σ G H vs ds Q s r h => by
    obtain ⟨v, d, rfl, rfl, rv, h⟩ := one1_ok r h
    cases d <;> try exact h.elim
    rw [rv.toInt]
    exact ⟨_, rfl, h.here s (.int _)⟩) hm (by decide +kernel) ha hg (by decide) (by decide) he
/-- n.bit_length() -/
theorem dp_bits (ha : DP X cl W a ma) (hbase : attributeBase a "bit_length" X.env (eval a X.env) = eval a X.env := by rfl) (hline : (apos.endLine == pos.line) = true := by rfl) :
    DP X cl W (.Call (.Attribute a "bit_length" apos) [] [] pos) (fun ρ => (ma ρ).bind fun d => match d with | .int i => .ok (.int (Builtin.Int.intBits i : Nat)) | _ => .stuck) := by
  obtain ⟨t, pa, k⟩ := ha.ex
  refine ⟨_, pe_bits pa hbase hline, fun G H σ ρ Q s rs h => k G H σ ρ _ s rs (h.bind fun d v G1 H1 e r h1 => ?_)⟩
  cases d <;> try exact h1.elim
  rw [r.toInt]
  exact ⟨_, rfl, h1.here e.s (.int _)⟩
/-- list(range(..)) -/
def rgD (a b : Int) : Out D := guard (decide (-(2 ^ 62) ≤ a ∧ a < 2 ^ 62 ∧ -(2 ^ 62) ≤ b ∧ b < 2 ^ 62 ∧ (b - a).toNat ≤ 2 ^ 24)) (.ok (.lst (rangeD a (b - a).toNat)))
theorem rl_range (K : PySem.W.Frag) (G : Hp) (a b : Int) : RL K cl G (rgV a b) (rangeD a (b - a).toNat) := by
  unfold rgV rangeD
  generalize List.range (b - a).toNat = l
  induction l with
  | nil => exact .nil
  | cons n l ih => exact .cons (.int _) ih
theorem dn_listRange1 (hm : X.mg "list" = none) (hm2 : X.mg "range" = none) (hc : X.calm = true) (ha : DP X cl W a ma) {p2 pos2 : Pos} (hg : Gl X "list" := by rfl) (hg2 : Gl X "range" := by rfl)
    (na : starEach [a] X.env = (false, eval a X.env) :: starEach [] X.env := by rfl) (nb : starEach [.Call (.Name "range" p2) [a] [] pos2] X.env = (false, eval (.Call (.Name "range" p2) [a] [] pos2) X.env) :: starEach [] X.env := by rfl) :
    DN X cl W (.Call (.Name "list" p) [.Call (.Name "range" p2) [a] [] pos2] [] pos) (fun ρ => (ma ρ).bind fun d => match d with | .int n => rgD 0 n | _ => .stuck) := by
  obtain ⟨t, pa, k⟩ := ha.ex
  refine ⟨_, pe_listRg hc hg hm (prg_1 hg2 hm2 pa na) nb, fun G H σ ρ Q s rs h => k G H σ ρ _ s rs (PostN.bind h fun d v G1 H1 e r h1 => ?_)⟩
  cases d <;> try exact h1.elim
  rw [r.toInt]
  obtain ⟨c, h2⟩ := PostN.guard h1
  exact ⟨_, rfl, c, h2.newLst e.s (rl_range _ _ _ _)⟩
theorem dn_listRange2 (hm : X.mg "list" = none) (hm2 : X.mg "range" = none) (hc : X.calm = true) (ha : DP X cl W a ma) (hb : DP X cl W b mb) {p2 pos2 : Pos} (hg : Gl X "list" := by rfl) (hg2 : Gl X "range" := by rfl)
    (na : starEach [a, b] X.env = (false, eval a X.env) :: starEach [b] X.env := by rfl) (nb : starEach [b] X.env = (false, eval b X.env) :: starEach [] X.env := by rfl) (hp : (backTo pos2 (starEach [b] X.env)).any (·.1) = false := by rfl)
    (nc : starEach [.Call (.Name "range" p2) [a, b] [] pos2] X.env = (false, eval (.Call (.Name "range" p2) [a, b] [] pos2) X.env) :: starEach [] X.env := by rfl) :
    DN X cl W (.Call (.Name "list" p) [.Call (.Name "range" p2) [a, b] [] pos2] [] pos) (fun ρ => (ma ρ).bind fun d => (mb ρ).bind fun e => match d, e with | .int i, .int j => rgD i j | _, _ => .stuck) := by
  obtain ⟨t, pa, k⟩ := ha.ex
  obtain ⟨u, pb, k2⟩ := hb.ex
  refine ⟨_, pe_listRg hc hg hm (prg_2 hg2 hm2 pa pb na nb hp) nc, fun G H σ ρ Q s rs h => k G H σ ρ _ s rs (PostN.bind h fun d v G1 H1 e r h1 => ?_)⟩
  refine k2 G1 H1 σ ρ _ e.s (rs.mono e.g) (PostN.bind h1 fun d2 v2 G2 H2 e2 r2 h2 => ?_)
  cases d <;> try exact h2.elim
  cases d2 <;> try exact h2.elim
  rw [r.toInt, r2.toInt]
  obtain ⟨c, h3⟩ := PostN.guard h2
  exact ⟨_, _, rfl, rfl, c, h3.newLst e2.s (rl_range _ _ _ _)⟩
end

/-! ### kinds of things -/
def tyD : D → Option String
  | .non => some "NoneType"
  | .bl _ => some "bool"
  | .int _ => some "int"
  | .str _ => some "str"
  | .lst _ => some "list"
  | .scr _ => some "list"
  | .tup _ => some "tuple"
  | .dK _ => some "dict"
  | .dT _ => some "dict"
  | .dF _ => some "dict"
  | _ => none
def isiB (t T : String) : Bool := t == T || (t == "bool" && T == "int")
theorem kitB_ok : ∀ t ∈ ["NoneType", "bool", "int", "str", "list", "tuple", "dict"], ∀ T ∈ ["bool", "int", "str", "list", "tuple", "dict"], kitB t T = some (isiB t T) := by decide +kernel
theorem tyD_in {d : D} {t : String} (h : tyD d = some t) : t ∈ ["NoneType", "bool", "int", "str", "list", "tuple", "dict"] := by
  cases d <;> simp [tyD] at h <;> subst h <;> simp
section
variable {X : Cx} {cl : Nat → Addr} {W : WX} {a b c e : Expr} {es : List Expr} {ma mb : PEnv → Out D} {ml : PEnv → Out (List D)} {pos p apos p2 : Pos}
theorem R.tyx {G H : Hp} {v : V} {d : D} {t : String} (s : Same G H) (r : R X.K cl G v d) (h : tyD d = some t) : TyX X.K H v (.type t) := by
  cases r <;> simp [tyD] at h <;> subst h
  · exact .base .non
  · exact .base (.bl _)
  · exact .base (.int _)
  · exact .base (.str _)
  · rename_i h1 _; exact .base (.lst (s _ _ h1))
  · rename_i h1 _; exact .base (.tup (s _ _ h1))
  · rename_i h1 _ _; exact .base (.dK (s _ _ h1))
  · rename_i h1 _ _; exact .fDict (s _ _ h1)
  · rename_i h1 _ _; exact .base (.dT (s _ _ h1))
  · rename_i h1
    rcases s.seq h1 with (h1 | ⟨o, h1⟩) | ⟨o, its, n, h1, h2, _⟩
    · exact .base (.lst h1)
    · exact .base (.frz h1)
    · exact .kList h1 h2
/-- isinstance(x, T), T a built-in class -/
def isiD (T : String) (d : D) : Out D := (Out.ofOpt (tyD d)).bind fun t => .ok (.bl (isiB t T))
theorem dp_isi {T : String} {x : Str} (hm : X.mg "isinstance" = none) (hT : X.mg x = none) (hTb : bootBuiltins x = some (.type T)) (hin : T ∈ ["bool", "int", "str", "list", "tuple", "dict"]) (ha : DP X cl W a ma) (hg : Gl X "isinstance" := by rfl) (hgT : Gl X x := by rfl) (hnx : x ≠ "__name__" := by decide) (hdx : (x == ("__debug__" : Str)) = false := by decide)
    (he : starEach (a :: [.Name x p2]) X.env = (false, eval a X.env) :: starEach [.Name x p2] X.env := by rfl) (he2 : starEach [.Name x p2] X.env = (false, eval (.Name x p2) X.env) :: starEach [] X.env := by rfl) (hpl : (backTo pos (starEach [.Name x p2] X.env)).any (·.1) = false := by rfl) :
    DP X cl W (.Call (.Name "isinstance" p) [a, .Name x p2] [] pos) (fun ρ => (ma ρ).bind (isiD T)) := by
  obtain ⟨t, pa, k⟩ := ha.ex
  refine ⟨_, pe_callB call_isi hg hm PyProof.Rows.boot_isinstance (pa_cons pa (pa_cons (pe_bltn (v := .ty T) hgT hT hTb rfl hnx hdx) pa_nil he2) he) (by decide) (by decide) he hpl, fun G H σ ρ Q s rs h => k G H σ ρ _ s rs (h.bind fun d v G1 H1 e r h1 => ?_)⟩
  obtain ⟨ty, h2, h3⟩ := ofOpt_ok h1
  exact ⟨v, .ty T, .type ty, .type T, _, rfl, .ty T, r.tyx e.s h2, kit_ty (kitB_ok ty (tyD_in h2) T hin), h3.here e.s (.bl _)⟩
end

/-! ### texts of things -/
def reprD (d : D) : Out D := guard ((py d).showable && !(py d).hasDict && decide ((py d).depth ≤ 64) && decide ((py d).shown.length ≤ sizeLine)) (.ok (.str (py d).shown))
mutual
theorem plain_of_show : ∀ d : D, (py d).hasDict = false → plain d = true
  | .non, _ => rfl
  | .bl _, _ => rfl
  | .int _, _ => rfl
  | .str _, _ => rfl
  | .lst ds, h => by
    have h' : PyData.hasDictAll (pys ds) = false := by simpa [py, PyData.hasDict] using h
    simpa [plain] using plains_of_show ds h'
  | .tup ds, h => by
    have h' : PyData.hasDictAll (pys ds) = false := by simpa [py, PyData.hasDict] using h
    simpa [plain] using plains_of_show ds h'
  | .dK _, h => by simp [py, PyData.hasDict] at h
  | .dT _, h => by simp [py, PyData.hasDict] at h
  | .dF _, h => by simp [py, PyData.hasDict] at h
  | .ins _ _, h => by simp [py, PyData.hasDict] at h
  | .scr _, h => by simp [py, PyData.hasDict] at h
  | .exn _ _, h => by simp [py, PyData.hasDict] at h
theorem plains_of_show : ∀ ds : List D, PyData.hasDictAll (pys ds) = false → plains ds = true
  | [], _ => rfl
  | d :: ds, h => by
    have h' : (py d).hasDict = false ∧ PyData.hasDictAll (pys ds) = false := by simpa [pys, PyData.hasDictAll] using h
    simp [plains, plain_of_show d h'.1, plains_of_show ds h'.2]
end
section
variable {X : Cx} {cl : Nat → Addr} {W : WX} {a : Expr} {ma : PEnv → Out D} {ml : PEnv → Out (List D)} {pos p : Pos}
theorem call_repr (hgd : X.A.guards = some []) (hu : X.A.units + 128 < cLine) : CallR X (.builtin "repr") (fun xs H Q => ∃ x d, xs = [x] ∧ Dp X.K H x d ∧ d.showable = true ∧ d.hasDict = false ∧ d.depth ≤ 64 ∧ d.shown.length ≤ sizeLine ∧ Q (.str d.shown) H) := by
  intro pins s σ H xs us Q I r h
  obtain ⟨x, d, rfl, hd, h1, h2, h3, h4, q⟩ := h
  obtain ⟨u, rfl, ru⟩ := vals1 r
  have hd0 := hd
  cases hd with
  | non => cases (show u = Value.none from ru); exact PySem.P.repr_of_none (by first | exact ⟨.str _, H, I.tok _, ⟨_, rfl⟩, q⟩ | exact fun _ _ => ⟨.str _, H, I.tok _, ⟨_, rfl⟩, q⟩)
  | bl b => cases (show u = Value.bool b from ru); exact PySem.P.repr_of_bool (by first | exact ⟨.str _, H, I.tok _, ⟨_, rfl⟩, q⟩ | exact fun _ _ => ⟨.str _, H, I.tok _, ⟨_, rfl⟩, q⟩)
  | int i => 
    obtain ⟨t, rfl⟩ := ru
    exact PySem.P.repr_of_int (of_decide_eq_true h1) ⟨.str _, H, I.tok _, ⟨_, rfl⟩, q⟩
  | str z =>
    obtain ⟨t, rfl⟩ := ru
    exact PySem.P.repr_of_str (by first | exact ⟨.str _, H, I.tok _, ⟨_, rfl⟩, q⟩ | exact fun _ _ => ⟨.str _, H, I.tok _, ⟨_, rfl⟩, q⟩)
  | lst h5 h6 =>
    have ru0 := ru
    cases (show u = Value.ref _ from ru)
    obtain ⟨as, rd⟩ := Dp.reads I _ _ _ hd0 ru0
    exact PySem.repr_of_reads' rd h1 (fun h => absurd h (by simp [h2])) hgd (by omega) (fun _ _ h => h) (fun h' u tk hk => ⟨.str _, H, I.turnedL (ch := []) (fun b o _ h => hk b o h) (fun b hb => by cases hb), ⟨_, rfl⟩, q⟩) h4
  | tup h5 h6 =>
    have ru0 := ru
    cases (show u = Value.ref _ from ru)
    obtain ⟨as, rd⟩ := Dp.reads I _ _ _ hd0 ru0
    exact PySem.repr_of_reads' rd h1 (fun h => absurd h (by simp [h2])) hgd (by omega) (fun _ _ h => h) (fun h' u tk hk => ⟨.str _, H, I.turnedL (ch := []) (fun b o _ h => hk b o h) (fun b hb => by cases hb), ⟨_, rfl⟩, q⟩) h4
theorem reprD_ok {d : D} {σ : Sl} {G H : Hp} {Q : VK} (h : Post X.K cl W σ G H (reprD d) Q) : (py d).showable = true ∧ (py d).hasDict = false ∧ (py d).depth ≤ 64 ∧ (py d).shown.length ≤ sizeLine ∧ Post X.K cl W σ G H (.ok (.str (py d).shown)) Q := by
  unfold reprD at h
  cases hc : ((py d).showable && !(py d).hasDict && decide ((py d).depth ≤ 64) && decide ((py d).shown.length ≤ sizeLine)) with
  | false => rw [hc] at h; exact h.elim
  | true =>
    rw [hc] at h
    simp only [Bool.and_eq_true, Bool.not_eq_true', decide_eq_true_eq] at hc
    exact ⟨hc.1.1.1, hc.1.1.2, hc.1.2, hc.2, h⟩
theorem dp_repr (hgd : X.A.guards = some []) (hu : X.A.units + 128 < cLine) (hm : X.mg "repr" = none) (ha : DA X cl W [a] ml) (hg : Gl X "repr" := by rfl) (he : starEach [a] X.env = (false, eval a X.env) :: starEach [] X.env := by rfl) :
    DP X cl W (.Call (.Name "repr" p) [a] [] pos) (fun ρ => (ml ρ).bind (one1 reprD)) :=
  dp_callB (call_repr hgd hu) (fun σ G H vs ds Q s r h => by
    obtain ⟨v, d, rfl, rfl, rv, h⟩ := one1_ok r h
    obtain ⟨h1, h2, h3, h4, h5⟩ := reprD_ok h
    exact ⟨v, py d, rfl, rv.dp s (plain_of_show d h2), h1, h2, h3, h4, h5.here s (.str _)⟩) hm (by decide +kernel) ha hg (by decide) (by decide) he
end
end Vx
end
section
set_option maxRecDepth 100000
set_option maxHeartbeats 1000000
/-! Vx10: comprehensions that change things; a comprehension put into a local; small rules. -/
namespace Vx
open PySem PySem.Spec PyProof.Rows L2
open Out (guard)

section
variable {P : Program} {w : World} {K : PySem.W.Frag} {mg : Str → Option Value} {base : Heap} {N : List Str} {qual : Str} {scope : Scope} {f : Addr} {cd : Value} {A : Around} {outer : List PySem.Env} {s : Shared} {H : Hp} {E : XK}
theorem takes_cx : Takes (cxOf (L2.CX P w) P w K mg base N qual scope f cd A outer s H E) (WofE E) := fun u s' x => XE.leave (W := WofE E) (E := E) rfl rfl rfl (fun _ _ _ _ h => h) x
theorem owns_cx : PassesOwn (model P w) (cxOf (L2.CX P w) P w K mg base N qual scope f cd A outer s H E).A (cxOf (L2.CX P w) P w K mg base N qual scope f cd A outer s H E).env (cxOf (L2.CX P w) P w K mg base N qual scope f cd A outer s H E).xe :=
  passes_of (X := cxOf (L2.CX P w) P w K mg base N qual scope f cd A outer s H E) (K := fun e s'' => L2.CX P w outer H s E e s'') (E₁ := fun e s'' => L2.CX P w outer H s E e s'') rfl
theorem takes_0 {X : Cx} : Takes X W0 := takes_none5
end

/-! ### what a comprehension makes, whatever stands around it -/
def TF (K : PySem.W.Frag) (cl : Nat → Addr) (W : WX) (t : TE) (m : Env → Res D) : Prop := ∀ (G H : Hp) (σ : Sl) (ρ : Env) (Q : VK), Sr K cl G H σ ρ → PostF K cl W G H σ ρ (m ρ) Q → t σ H Q
def TN (K : PySem.W.Frag) (cl : Nat → Addr) (W : WX) (t : TE) (m : PEnv → Out D) : Prop := ∀ (G H : Hp) (σ : Sl) (ρ : PEnv) (Q : VK), Same G H → RS K cl G σ ρ → PostN K cl W σ G H (m ρ) Q → t σ H Q
section
variable {K : PySem.W.Frag} {cl : Nat → Addr} {W : WX} {t : TE} {ma : PEnv → Out D}
theorem tf_flat (k : TN K cl W t ma) : TF K cl W t (flatN ma) := fun G H σ ρ Q S h => k H H σ (viewA ρ) Q (.refl _) S.viewA (by
  unfold flatN at h
  cases q : ma (viewA ρ) with
  | stuck => rw [q] at h; exact h
  | ok d =>
    rw [q] at h
    intro p G' H' x hp hn r
    by_cases hd : flatD d = true
    · simp only [hd, if_true] at h
      obtain ⟨st, S'⟩ := S.grow x.h
      refine h p G H' st S' (.inl hp) (fun z => ?_) (S.s.free hp) (r.flat hd)
      obtain ⟨o, q⟩ := S.there z
      rw [hp] at q; cases q
    · simp only [hd, if_false] at h
      exact h.elim
  | exc y =>
    rw [q] at h
    intro c dx G' H' x r
    by_cases hd : scalar y.d = true
    · simp only [hd, if_true] at h
      obtain ⟨st, S'⟩ := S.grow x.h
      exact h c dx G H' st S' (RX.scal hd r)
    · simp only [hd, if_false] at h
      exact h.elim)
theorem tf_frz (T : List Nat) (k : TN K cl W t ma) : TF K cl W t (frzE T ma) := fun G H σ ρ Q S h => by
  obtain ⟨G1, st, S1⟩ := frz_ok T S
  refine k G1 H σ (viewS (frz T ρ)) Q S1.s S1.viewS ?_
  unfold frzE at h
  cases q : ma (viewS (frz T ρ)) with
  | stuck => rw [q] at h; exact h
  | ok d =>
    rw [q] at h
    intro p G' H' x hp hn r
    obtain ⟨s2, S2⟩ := Stp.pure S1 x
    refine h p G' H' (st.trans S1 s2) S2 (.inl hp) (fun z => ?_) hn r
    obtain ⟨o, q⟩ := S1.there z
    rw [hp] at q; cases q
  | exc y =>
    rw [q] at h
    intro c dx G' H' x r
    obtain ⟨s2, S2⟩ := Stp.pure S1 x
    exact h c dx G' H' (st.trans S1 s2) S2 r
end
/-- a comprehension, alone or put into a local on its own line -/
structure DLc (X : Cx) (cl : Nat → Addr) (W : WX) (e : Expr) (m : Env → Res D) : Prop where
  ex : ∃ t : TE, PE X e t ∧ (∀ (i : Nat) (y : Str) (py spos : Pos), X.N[i]? = some y → X.env.scope.names.lookup y = some .local → swapsWith e (some (.Name y py)) spos.line X.env = pure true → PS X (.Assign [.Name y py] e spos) (tAsg t (gName i))) ∧ TF X.K cl W t m
section
variable {X : Cx} {cl : Nat → Addr} {W : WX} {fr : Bool} {e : Expr} {m : Env → Res D} {pos py : Pos}
theorem DLc.df (h : DLc X cl W e m) : DF X cl W e m := let ⟨t, p, _, k⟩ := h.ex; ⟨t, p, k⟩
theorem ds_setLc (i : Nat) {x : Str} (he : DLc X cl W e m) (hi : X.N[i]? = some x := by rfl) (hx : X.env.scope.names.lookup x = some .local := by rfl) (hs : swapsWith e (some (.Name x py)) pos.line X.env = pure true := by exact sw_true rfl rfl rfl rfl) :
    DS X cl W fr (.Assign [.Name x py] e pos) (fun ρ => (m ρ).fin fun d ρ => orStuck (setC ρ i (.ow d)) .nx) := by
  obtain ⟨t, _, p, k⟩ := he.ex
  refine ⟨_, p i x py pos hi hx hs, fun G H σ ρ D S h => k G H σ ρ _ S (h.valF fun d q ρ' G' H' b S' hp ho hn r h' => ?_)⟩
  obtain ⟨ρ2, q, h2⟩ := PostS.orS h'
  obtain ⟨s2, S2⟩ := setOw_ok b S' hp ho hn r q
  exact h2 _ G' H' s2 S2
end
section
variable {X : Cx} {cl : Nat → Addr} {W : WX} {elt tg iter : Expr} {ifs : List Expr} {scope : Scope} {own : List (Str × Nat)} {is : List Nat} {fg : D → PEnv → Out PEnv} {mi : PEnv → Out (List D)} {mt : PEnv → Out Bool} {me : PEnv → Out D} {pos : Pos}
def lcP (mi : PEnv → Out (List D)) (fg : D → PEnv → Out PEnv) (mt : PEnv → Out Bool) (me : PEnv → Out D) (vs : List Nat) (ρ : PEnv) : Out D := (mi ρ).bind fun ds => compD (compF fg mt me (wipeV ρ vs)) ds
theorem lc_tn (hc : X.calm = true) (hN : X.N.Nodup) (hi : DI X cl W tg iter mi) (ok : BlkOk X.N X.env.scope scope own) (hsub : ∀ i ∈ is, i ∈ own.map (·.2))
    (hg : ∀ (s : Shared) (H : Hp) (C : Addr) (cs : List (Str × Addr)) (fp : List Addr), DG (X.blk s H scope (compEnvC scope cs C X.env) fp) cl tg is fg)
    (ht : ∀ (s : Shared) (H : Hp) (C : Addr) (cs : List (Str × Addr)) (fp : List Addr), DTs (X.blk s H scope (compEnvC scope cs C X.env) fp) cl ifs mt)
    (he : ∀ (s : Shared) (H : Hp) (C : Addr) (cs : List (Str × Addr)) (fp : List Addr), DP (X.blk s H scope (compEnvC scope cs C X.env) fp) cl W0 elt me) (hs : ∀ x, foldedSetIterable iter X.env x = pure x) :
    ∃ t : TE, PE X (.ListComp elt [⟨tg, iter, ifs, 0⟩] scope pos) t ∧ (∀ (i : Nat) (y : Str) (py spos : Pos), X.N[i]? = some y → X.env.scope.names.lookup y = some .local → swapsWith (.ListComp elt [⟨tg, iter, ifs, 0⟩] scope pos) (some (.Name y py)) spos.line X.env = pure true →
      PS X (.Assign [.Name y py] (.ListComp elt [⟨tg, iter, ifs, 0⟩] scope pos) spos) (tAsg t (gName i))) ∧ TN X.K cl W t (lcP mi fg mt me (own.map (·.2))) := by
  obtain ⟨wi, p, k⟩ := hi.ex
  refine ⟨_, pe_lc hc hN p ok (fun s H C cs fp => (hg s H C cs fp).pg) (fun s H C cs fp => (ht s H C cs fp).ex) (fun s H C cs fp => (he s H C cs fp).pe) hs, fun i y py spos hy hyl hsw => ?_, fun G H σ ρ Q s rs h => lc_read hsub k s rs h⟩
  exact ps_setLc hc hN hy hyl hsw p ok (fun s H C cs fp => (hg s H C cs fp).pg) (fun s H C cs fp => (ht s H C cs fp).ex) (fun s H C cs fp => (he s H C cs fp).pe) hs
theorem dlc_flat (hc : X.calm = true) (hN : X.N.Nodup) (hi : DI X cl W tg iter mi) (ok : BlkOk X.N X.env.scope scope own) (hsub : ∀ i ∈ is, i ∈ own.map (·.2))
    (hg : ∀ (s : Shared) (H : Hp) (C : Addr) (cs : List (Str × Addr)) (fp : List Addr), DG (X.blk s H scope (compEnvC scope cs C X.env) fp) cl tg is fg)
    (ht : ∀ (s : Shared) (H : Hp) (C : Addr) (cs : List (Str × Addr)) (fp : List Addr), DTs (X.blk s H scope (compEnvC scope cs C X.env) fp) cl ifs mt)
    (he : ∀ (s : Shared) (H : Hp) (C : Addr) (cs : List (Str × Addr)) (fp : List Addr), DP (X.blk s H scope (compEnvC scope cs C X.env) fp) cl W0 elt me) (hs : ∀ x, foldedSetIterable iter X.env x = pure x := by intro _; rfl) :
    DLc X cl W (.ListComp elt [⟨tg, iter, ifs, 0⟩] scope pos) (flatN (lcP mi fg mt me (own.map (·.2)))) := let ⟨t, a, b, c⟩ := lc_tn (pos := pos) hc hN hi ok hsub hg ht he hs; ⟨t, a, b, tf_flat c⟩
theorem dlc_frz (T : List Nat) (hc : X.calm = true) (hN : X.N.Nodup) (hi : DI X cl W tg iter mi) (ok : BlkOk X.N X.env.scope scope own) (hsub : ∀ i ∈ is, i ∈ own.map (·.2))
    (hg : ∀ (s : Shared) (H : Hp) (C : Addr) (cs : List (Str × Addr)) (fp : List Addr), DG (X.blk s H scope (compEnvC scope cs C X.env) fp) cl tg is fg)
    (ht : ∀ (s : Shared) (H : Hp) (C : Addr) (cs : List (Str × Addr)) (fp : List Addr), DTs (X.blk s H scope (compEnvC scope cs C X.env) fp) cl ifs mt)
    (he : ∀ (s : Shared) (H : Hp) (C : Addr) (cs : List (Str × Addr)) (fp : List Addr), DP (X.blk s H scope (compEnvC scope cs C X.env) fp) cl W0 elt me) (hs : ∀ x, foldedSetIterable iter X.env x = pure x := by intro _; rfl) :
    DLc X cl W (.ListComp elt [⟨tg, iter, ifs, 0⟩] scope pos) (frzE T (lcP mi fg mt me (own.map (·.2)))) := let ⟨t, a, b, c⟩ := lc_tn (pos := pos) hc hN hi ok hsub hg ht he hs; ⟨t, a, b, tf_frz T c⟩
theorem dn_lc' (hc : X.calm = true) (hN : X.N.Nodup) (hi : DI X cl W tg iter mi) (ok : BlkOk X.N X.env.scope scope own) (hsub : ∀ i ∈ is, i ∈ own.map (·.2))
    (hg : ∀ (s : Shared) (H : Hp) (C : Addr) (cs : List (Str × Addr)) (fp : List Addr), DG (X.blk s H scope (compEnvC scope cs C X.env) fp) cl tg is fg)
    (ht : ∀ (s : Shared) (H : Hp) (C : Addr) (cs : List (Str × Addr)) (fp : List Addr), DTs (X.blk s H scope (compEnvC scope cs C X.env) fp) cl ifs mt)
    (he : ∀ (s : Shared) (H : Hp) (C : Addr) (cs : List (Str × Addr)) (fp : List Addr), DP (X.blk s H scope (compEnvC scope cs C X.env) fp) cl W0 elt me) (hs : ∀ x, foldedSetIterable iter X.env x = pure x := by intro _; rfl) :
    DN X cl W (.ListComp elt [⟨tg, iter, ifs, 0⟩] scope pos) (lcP mi fg mt me (own.map (·.2))) := let ⟨t, a, b, c⟩ := lc_tn (pos := pos) hc hN hi ok hsub hg ht he hs; ⟨t, a, c⟩
end

/-! ### the slots of a block -/
def isNo : Option Cell → Bool
  | some .no => true
  | _ => false
def wipe1 (ρ : Env) (i : Nat) : Option Env := match ρ[i]? with
  | some (.io _) => none
  | _ => some (ρ.set i .no)
def wipeO : List Nat → Env → Option Env
  | [], ρ => some ρ
  | i :: vs, ρ => (wipe1 ρ i).bind (wipeO vs)
section
variable {K : PySem.W.Frag} {cl : Nat → Addr} {G H : Hp} {σ σ' : Sl} {ρ ρ' : Env}
theorem wipe1_ok {i : Nat} (S : Sr K cl G H σ ρ) (h : wipe1 ρ i = some ρ') : Stp G H σ ρ G H σ ρ' ∧ Sr K cl G H σ ρ' ∧ (∀ j, j ≠ i → ρ'[j]? = ρ[j]?) ∧ (ρ'[i]? = some .no ∨ ρ'[i]? = none) := by
  have hn : ∀ d, ρ[i]? ≠ some (.io d) := fun d q => by
    unfold wipe1 at h; rw [q] at h; cases h
  have e : ρ' = ρ.set i .no := by
    unfold wipe1 at h
    split at h
    · cases h
    · cases h; rfl
  subst e
  have at_ : ∀ {j : Nat} {c : Cell}, (ρ.set i .no)[j]? = some c → c ≠ .no → ρ[j]? = some c ∧ j ≠ i := fun {j c} q hc => by
    by_cases hj : j = i
    · subst hj
      by_cases hl : j < ρ.length
      · rw [List.getElem?_set_self hl] at q; cases q; exact absurd rfl hc
      · rw [List.getElem?_eq_none (by rw [List.length_set]; omega)] at q; cases q
    · rw [List.getElem?_set_ne (Ne.symm hj)] at q; exact ⟨q, hj⟩
  refine ⟨⟨.refl _, fun _ a b => absurd a b, fun _ _ q _ => q, fun b ⟨j, d, q, q'⟩ => .inr ⟨j, d, (at_ q (by simp)).1, q'⟩, fun j d q => ⟨⟨d, ?_⟩, rfl⟩, fun j d q => ⟨d, (at_ q (by simp)).1⟩, rfl⟩,
    ⟨S.s, by rw [List.length_set]; exact S.len, fun j d q => S.sh j d (at_ q (by simp)).1, fun j d q => ?_, fun j l d e a q q' => ?_⟩, fun j hj => List.getElem?_set_ne (Ne.symm hj), ?_⟩
  · by_cases hj : j = i
    · subst hj; exact absurd q (hn d)
    · rw [List.getElem?_set_ne (Ne.symm hj)]; exact q
  · exact S.own j d (q.imp (fun q => (at_ q (by simp)).1) fun q => (at_ q (by simp)).1)
  · exact S.inj j l d e a (q.imp (fun q => (at_ q (by simp)).1) fun q => (at_ q (by simp)).1) (q'.imp (fun q => (at_ q (by simp)).1) fun q => (at_ q (by simp)).1)
  · by_cases hl : i < ρ.length
    · exact .inl (List.getElem?_set_self hl)
    · exact .inr (List.getElem?_eq_none (by rw [List.length_set]; omega))
theorem wipeO_ok : ∀ {vs : List Nat} {ρ ρ' : Env}, Sr K cl G H σ ρ → wipeO vs ρ = some ρ' → Stp G H σ ρ G H σ ρ' ∧ Sr K cl G H σ ρ' ∧ (∀ j, j ∉ vs → ρ'[j]? = ρ[j]?) ∧ ∀ j ∈ vs, ρ'[j]? = some .no ∨ ρ'[j]? = none
  | [], ρ, ρ', S, h => by cases h; exact ⟨.refl, S, fun _ _ => rfl, fun _ q => by cases q⟩
  | i :: vs, ρ, ρ', S, h => by
    obtain ⟨ρ1, h1, h2⟩ := Option.bind_eq_some_iff.mp h
    obtain ⟨a1, a2, a3, a4⟩ := wipe1_ok S h1
    obtain ⟨b1, b2, b3, b4⟩ := wipeO_ok a2 h2
    refine ⟨a1.trans a2 b1, b2, fun j hj => ?_, fun j hj => ?_⟩
    · rw [b3 j (fun z => hj (List.mem_cons_of_mem _ z)), a3 j (fun z => hj (z ▸ List.mem_cons_self))]
    · by_cases hv : j ∈ vs
      · exact b4 j hv
      · rcases List.mem_cons.mp hj with rfl | z
        · rw [b3 j hv]; exact a4
        · exact absurd z hv
/-- slots of which nothing is told may hold anything -/
theorem slots_ok (S : Sr K cl G H σ ρ) (hl : σ'.length = σ.length) (h : ∀ j : Nat, σ'[j]? = σ[j]? ∨ ρ[j]? = some Cell.no ∨ ρ[j]? = none) : Stp G H σ ρ G H σ' ρ ∧ Sr K cl G H σ' ρ := by
  have eq : ∀ {j : Nat} {c : Cell}, ρ[j]? = some c → c ≠ .no → σ'[j]? = σ[j]? := fun {j c} q hc => by
    rcases h j with z | z | z
    · exact z
    · rw [z] at q; cases q; exact absurd rfl hc
    · rw [z] at q; cases q
  refine ⟨⟨.refl _, fun _ a b => absurd a b, fun _ _ q _ => q, fun b ⟨j, d, q, q'⟩ => .inr ⟨j, d, q, (eq q (by simp)) ▸ q'⟩, fun j d q => ⟨⟨d, q⟩, eq q (by simp)⟩, fun j d q => ⟨d, q⟩, hl⟩,
    ⟨S.s, by rw [hl]; exact S.len, fun j d q => ?_, fun j d q => ?_, fun j l d d' a q q' z z' => ?_⟩⟩
  · rw [eq q (by simp)]; exact S.sh j d q
  · have e : σ'[j]? = σ[j]? := q.elim (fun q => eq q (by simp)) fun q => eq q (by simp)
    rw [e]; exact S.own j d q
  · have e : σ'[j]? = σ[j]? := q.elim (fun q => eq q (by simp)) fun q => eq q (by simp)
    have e' : σ'[l]? = σ[l]? := q'.elim (fun q => eq q (by simp)) fun q => eq q (by simp)
    exact S.inj j l d d' a q q' (e ▸ z) (e' ▸ z')
end

/-! ### targets, with what they leave alone -/
structure DGK (X : Cx) (cl : Nat → Addr) (tg : Expr) (is : List Nat) (f : D → Env → Option Env) : Prop where
  ex : ∃ g : TG, PG X tg g ∧ ∀ (G H : Hp) (σ : Sl) (ρ : Env) (v : V) (d : D) (Q : Sl → Hp → Prop), Sr X.K cl G H σ ρ → R X.K cl G v d →
    (∃ ρ', f d ρ = some ρ' ∧ ∀ σ', Stp G H σ ρ G H σ' ρ' → Sr X.K cl G H σ' ρ' → Kept is σ σ' → Q σ' H) → g v σ H Q
structure DGKs (X : Cx) (cl : Nat → Addr) (tgs : List Expr) (is : List Nat) (f : List D → Env → Option Env) : Prop where
  ex : ∃ g : TGs, PGs X tgs g ∧ ∀ (G H : Hp) (σ : Sl) (ρ : Env) (vs : List V) (ds : List D) (Q : Sl → Hp → Prop), Sr X.K cl G H σ ρ → RL X.K cl G vs ds →
    (∃ ρ', f ds ρ = some ρ' ∧ ∀ σ', Stp G H σ ρ G H σ' ρ' → Sr X.K cl G H σ' ρ' → Kept is σ σ' → Q σ' H) → g vs σ H Q
section
variable {X : Cx} {cl : Nat → Addr} {tg : Expr} {tgs : List Expr} {is js : List Nat} {pos : Pos} {f : D → Env → Option Env} {g : List D → Env → Option Env}
theorem dgk_name (i : Nat) {x : Str} (hN : X.N.Nodup) (hi : X.N[i]? = some x := by rfl) (hx : Loc X.env.scope x := by first | exact Or.inl rfl | exact Or.inr rfl) (hf : X.fn x = true ∨ X.env.scope.names.lookup x = some .local := by first | exact .inl rfl | exact .inr rfl) :
    DGK X cl (.Name x pos) [i] (fun d ρ => setC ρ i (.sh d)) :=
  ⟨_, pg_name hN hi hx hf, fun G H σ ρ v d Q S r ⟨ρ', q, h⟩ => let ⟨s2, S2⟩ := setSh_ok .refl S r q; h _ s2 S2 ⟨by simp, fun j hj => List.getElem?_set_ne (by simpa using Ne.symm (by simpa using hj))⟩⟩
theorem dgks_nil : DGKs X cl [] [] (fun ds ρ => match ds with | [] => some ρ | _ => none) :=
  ⟨_, pgs_nil, fun G H σ ρ vs ds Q S r ⟨ρ', q, h⟩ => by
    cases r with
    | nil => cases q; exact ⟨rfl, h σ .refl S .refl⟩
    | cons _ _ => cases q⟩
theorem dgks_cons (h1 : DGK X cl tg is f) (h2 : DGKs X cl tgs js g) (hs : (assignEach (tg :: tgs) X.env).map (·.2) = assign tg X.env :: (assignEach tgs X.env).map (·.2) := by rfl) :
    DGKs X cl (tg :: tgs) (is ++ js) (fun ds ρ => match ds with | d :: ds => (f d ρ).bind fun ρ => g ds ρ | [] => none) := by
  obtain ⟨t, p, k⟩ := h1.ex
  obtain ⟨u, p2, k2⟩ := h2.ex
  refine ⟨_, pgs_cons p p2 hs, fun G H σ ρ vs ds Q S r ⟨ρ', q, h⟩ => ?_⟩
  cases r with
  | nil => cases q
  | @cons v vs d ds r1 r2 =>
    have q' : (f d ρ).bind (fun ρ => g ds ρ) = some ρ' := q
    obtain ⟨ρ1, q1, q2⟩ := Option.bind_eq_some_iff.mp q'
    exact ⟨v, vs, rfl, k G H σ ρ v d _ S r1 ⟨ρ1, q1, fun σ1 s1 S1 k1 => k2 G H σ1 ρ1 vs ds Q S1 r2 ⟨ρ', q2, fun σ2 s2 S2 k2' => h σ2 (s1.trans S1 s2) S2 (k1.trans k2')⟩⟩⟩
theorem dgk_tup {es : List Expr} {k : Nat} {n : Nat} (hc : X.calm = true) (h : DGKs X cl es is g) (hn : (assignEach es X.env).length = n := by rfl) (hst : (assignEach es X.env).findIdx? (·.1) = none := by rfl) :
    DGK X cl (.Tuple es k pos) is (fun d ρ => match d with | .tup ds => if ds.length = n then g ds ρ else none | _ => none) := by
  obtain ⟨t, p, kk⟩ := h.ex
  refine ⟨_, pg_tup hc p hn hst, fun G H σ ρ v d Q S r ⟨ρ', q, h⟩ => ?_⟩
  cases d <;> try cases q
  rename_i ds _
  obtain ⟨a, xs, rfl, h1, r1, _⟩ := r.toTup
  have q' : (if ds.length = n then g ds ρ else none) = some ρ' := q
  split at q'
  · rename_i hl
    exact ⟨a, xs, rfl, S.s.sqT h1, by rw [r1.length]; exact hl, kk G H σ ρ xs ds Q S r1 ⟨ρ', q', h⟩⟩
  · cases q'
end

/-! ### the canonical wishes of what changes -/
def wpE (K : PySem.W.Frag) (cl : Nat → Addr) (W : WX) (m : Env → Res D) : TE := fun σ H Q => ∃ G ρ, Sr K cl G H σ ρ ∧ PostE K cl W G H σ ρ (m ρ) Q
def wpB (K : PySem.W.Frag) (cl : Nat → Addr) (W : WX) (m : Env → Res Bool) : TT := fun σ H Q => ∃ G ρ, Sr K cl G H σ ρ ∧ PostEB K cl W G H σ ρ (m ρ) Q
def wpK (K : PySem.W.Frag) (cl : Nat → Addr) (is : List Nat) (f : D → Env → Option Env) : TG := fun v σ H Q => ∃ G ρ d, Sr K cl G H σ ρ ∧ R K cl G v d ∧ ∃ ρ', f d ρ = some ρ' ∧ ∀ σ', Stp G H σ ρ G H σ' ρ' → Sr K cl G H σ' ρ' → Kept is σ σ' → Q σ' H
section
variable {X : Cx} {cl : Nat → Addr} {W : WX} {e tg : Expr} {m : Env → Res D} {mt : Env → Res Bool} {is : List Nat} {f : D → Env → Option Env}
theorem DE.pe (h : DE X cl W e m) : PE X e (wpE X.K cl W m) := by
  obtain ⟨t, p, k⟩ := h.ex
  exact ⟨fun pins s σ H Q I ⟨G, ρ, S, po⟩ => p.run pins s σ H Q I (k G H σ ρ Q S po)⟩
theorem DB.pt (h : DB X cl W e mt) : PT X e (wpB X.K cl W mt) := by
  obtain ⟨t, p, k⟩ := h.ex
  exact ⟨fun pins s σ H Q I ⟨G, ρ, S, po⟩ => p.run pins s σ H Q I (k G H σ ρ Q S po)⟩
theorem DGK.pg (h : DGK X cl tg is f) : PG X tg (wpK X.K cl is f) := by
  obtain ⟨t, p, k⟩ := h.ex
  exact ⟨fun pins s σ H v u Q I rv ⟨G, ρ, d, S, r, po⟩ => p.run pins s σ H v u Q I rv (k G H σ ρ v d Q S r po)⟩
/-- a list of tests -/
structure DBs (X : Cx) (cl : Nat → Addr) (ifs : List Expr) (m : Env → Res Bool) : Prop where
  ex : PTs X ifs (wpB X.K cl W0 m)
theorem dbs_nil : DBs X cl [] (fun ρ => .ok true ρ) := ⟨⟨fun pins s σ H Q I ⟨G, ρ, S, po⟩ => pts_nil.run pins s σ H Q I (po G H .refl S)⟩⟩
theorem dbs_one {c : Expr} (h : DB X cl W0 c mt) : DBs X cl [c] mt := ⟨pts_one h.pt⟩
end
/-- the turns: what is laid so far, the cells -/
def lcGo (f : D → Env → Option Env) (mt : Env → Res Bool) (me : Env → Res D) (vs : List Nat) : List D → Env → Res (List D)
  | [], ρ => .ok [] ρ
  | d :: ds, ρ => match f d ρ with
    | some ρ2 => (match mt ρ2 with
      | .ok true ρ3 => (match me ρ3 with
        | .ok e ρ4 => (match wipeO vs ρ4 with
          | some ρ5 => (match lcGo f mt me vs ds ρ5 with
            | .ok es ρ6 => .ok (e :: es) ρ6
            | _ => .stuck)
          | none => .stuck)
        | _ => .stuck)
      | .ok false ρ3 => (match wipeO vs ρ3 with
        | some ρ5 => lcGo f mt me vs ds ρ5
        | none => .stuck)
      | _ => .stuck)
    | none => .stuck
def lcE (mi : Env → Res (List D)) (f : D → Env → Option Env) (mt : Env → Res Bool) (me : Env → Res D) (vs : List Nat) (ρ : Env) : Res D := match mi ρ with
  | .ok ds ρ1 => (match wipeO vs ρ1 with
    | some ρ2 => if ds.length ≤ sizeLine then (match lcGo f mt me vs ds ρ2 with
      | .ok es ρ3 => .ok (.lst es) ρ3
      | _ => .stuck) else .stuck
    | none => .stuck)
  | .exc x ρ1 => .exc x ρ1
  | .stuck => .stuck
theorem lcGo_cons {f : D → Env → Option Env} {mt : Env → Res Bool} {me : Env → Res D} {vs : List Nat} {d : D} {ds es : List D} {ρ ρ6 : Env} (h : lcGo f mt me vs (d :: ds) ρ = .ok es ρ6) :
    ∃ ρ2 c ρ3, f d ρ = some ρ2 ∧ mt ρ2 = .ok c ρ3 ∧ ((c = true ∧ ∃ e ρ4 ρ5 es', me ρ3 = .ok e ρ4 ∧ wipeO vs ρ4 = some ρ5 ∧ lcGo f mt me vs ds ρ5 = .ok es' ρ6 ∧ es = e :: es') ∨ (c = false ∧ ∃ ρ5, wipeO vs ρ3 = some ρ5 ∧ lcGo f mt me vs ds ρ5 = .ok es ρ6)) := by
  unfold lcGo at h
  split at h
  · rename_i ρ2 q1
    split at h
    · rename_i ρ3 q2
      split at h
      · rename_i e ρ4 q3
        split at h
        · rename_i ρ5 q4
          split at h
          · rename_i es' ρ6' q5
            cases h
            exact ⟨ρ2, true, ρ3, q1, q2, .inl ⟨rfl, e, ρ4, ρ5, es', q3, q4, q5, rfl⟩⟩
          · cases h
        · cases h
      · cases h
    · rename_i ρ3 q2
      split at h
      · rename_i ρ5 q4
        exact ⟨ρ2, false, ρ3, q1, q2, .inr ⟨rfl, ρ5, q4, h⟩⟩
      · cases h
    · cases h
  · cases h
/-- between two turns -/
structure LcJ (K : PySem.W.Frag) (cl : Nat → Addr) (G1 H1 : Hp) (wσ : Sl) (ρ1 : Env) (D0 : Addr) (vs : List Nat) (go : List D → Env → Res (List D)) (ds es : List D) (ρe : Env) (i : Nat) (H' Gi : Hp) (ρi : Env) (acc : List V) (ea r : List D) : Prop where
  st : Stp G1 H1 wσ ρ1 Gi H' wσ ρi
  S : Sr K cl Gi H' wσ ρi
  no : ∀ j ∈ vs, ρi[j]? = some .no ∨ ρi[j]? = none
  n : Gi D0 = none
  w : ¬ Owned wσ ρi D0
  a : H' D0 = some (.lst acc)
  l : RL K cl Gi acc ea
  z : ea.length ≤ i
  c : go (ds.drop i) ρi = .ok r ρe
  e : es = ea ++ r
section
variable {K : PySem.W.Frag} {cl : Nat → Addr} {G H G1 H1 : Hp} {σ σ1 : Sl} {ρ ρ1 : Env}
/-- an object that is nobody's stays nobody's, and stays -/
theorem Stp.nobody {D0 : Addr} {o : HO} (st : Stp G H σ ρ G1 H1 σ1 ρ1) (h : H D0 = some o) (hw : ¬ Owned σ ρ D0) (hn : G D0 = none) : H1 D0 = some o ∧ ¬ Owned σ1 ρ1 D0 ∧ G1 D0 = none := by
  refine ⟨st.fr D0 o h hw, fun z => ?_, ?_⟩
  · rcases z with z | ⟨j, d, q, q'⟩
    · rcases st.nw D0 z with y | y
      · rw [h] at y; cases y
      · exact hw (.inl y)
    · obtain ⟨d', q2⟩ := st.oi j d q
      refine hw (.inr ⟨j, d', q2, ?_⟩)
      rw [← (st.io j d' q2).2]; exact q'
  · cases q : G1 D0 with
    | none => rfl
    | some u =>
      rcases st.gf D0 hn (by rw [q]; simp) with y | y
      · rw [h] at y; cases y
      · exact absurd (.inl y) hw
/-- the heap where nobody's object at D0 is another -/
theorem Sr.relay {D0 : Addr} {o : HO} (S : Sr K cl G H σ ρ) (hn : G D0 = none) (hw : ¬ Owned σ ρ D0) : Sr K cl G (upd H D0 o) σ ρ := by
  refine ⟨fun b u q => ?_, S.len, S.sh, fun i d q => ?_, S.inj⟩
  · rw [upd_ne (ne_of_none q hn)]; exact S.s _ _ q
  · obtain ⟨a, q1, q2, q3⟩ := S.own i d q
    refine ⟨a, q1, q2, q3.mono (.refl _) fun u z => ?_⟩
    rw [upd_ne (fun e => hw ?_)]
    · exact z
    · subst e
      rcases q with q | q
      · exact .inl ⟨i, d, q, q1⟩
      · exact .inr ⟨i, d, q, q1⟩
theorem Stp.relay {D0 : Addr} {o : HO} (st : Stp G H σ ρ G1 H1 σ1 ρ1) (hn : H D0 = none) : Stp G H σ ρ G1 (upd H1 D0 o) σ1 ρ1 :=
  ⟨st.g, st.gf, fun b u q nb => by rw [upd_ne (ne_of_none q hn)]; exact st.fr b u q nb, st.nw, st.io, st.oi, st.len⟩
end
section
variable {X : Cx} {cl : Nat → Addr} {W : WX} {elt tg iter : Expr} {ifs : List Expr} {scope : Scope} {own : List (Str × Nat)} {is : List Nat} {fg : D → Env → Option Env} {mi : Env → Res (List D)} {mt : Env → Res Bool} {me : Env → Res D} {pos : Pos}
theorem lc_readE {wi : TI} {vs : List Nat} (hsub : ∀ i ∈ is, i ∈ vs)
    (hi : ∀ (G H : Hp) (σ : Sl) (ρ : Env) (R' : It → Hp → Prop), Sr X.K cl G H σ ρ → PostEI X.K cl W G H σ ρ (mi ρ) R' → wi σ H R') :
    TF X.K cl W (tLc wi (wpK X.K cl is fg) (wpB X.K cl W0 mt) (wpE X.K cl W0 me) vs) (lcE mi fg mt me vs) := by
  intro G H σ ρ Q S h
  refine hi G H σ ρ _ S ?_
  unfold lcE at h
  cases qi : mi ρ with
  | stuck => rw [qi] at h; exact h
  | exc x ρ1 => rw [qi] at h; exact h
  | ok ds ρ1 =>
  rw [qi] at h
  simp only [] at h
  cases qw : wipeO vs ρ1 with
  | none => rw [qw] at h; exact h.elim
  | some ρ2 =>
  rw [qw] at h
  simp only [] at h
  by_cases hz : ds.length ≤ sizeLine
  · rw [if_pos hz] at h
    cases qc : lcGo fg mt me vs ds ρ2 with
    | stuck => rw [qc] at h; exact h.elim
    | exc x ρ3 => rw [qc] at h; exact h.elim
    | ok es ρ3 =>
    rw [qc] at h
    simp only [] at h
    intro J G1 H1 st1 S1 wk D0 hD0
    obtain ⟨w1, W1, wk1, wk2⟩ := wipeO_ok S1 qw
    have sl : ∀ j : Nat, (L2.wipe σ vs)[j]? = σ[j]? ∨ ρ2[j]? = some Cell.no ∨ ρ2[j]? = none := fun j => by
      by_cases hj : j ∈ vs
      · exact .inr (wk2 j hj)
      · exact .inl (wipe_out hj)
    obtain ⟨v1, V1⟩ := slots_ok W1 (wipe_len σ vs) sl
    have nD : ¬ Owned (L2.wipe σ vs) ρ2 D0 := fun z => by
      obtain ⟨o, q⟩ := V1.there z
      rw [hD0] at q; cases q
    have hG : G1 D0 = none := S1.s.free hD0
    refine ⟨fun i m H' => i ≤ ds.length ∧ m = ds.length - i ∧ ∃ Gi ρi acc ea r, LcJ X.K cl G1 H1 (L2.wipe σ vs) ρ2 D0 vs (lcGo fg mt me vs) ds es ρ3 i H' Gi ρi acc ea r, ⟨_, Nat.zero_le _, rfl, G1, ρ2, [], [], es, ?_⟩, ?_⟩
    · exact ⟨Stp.relay .refl hD0, V1.relay hG nD, wk2, hG, nD, upd_same, .nil, Nat.le_refl _, qc, rfl⟩
    · rintro i m H' ⟨hi', rfl, Gi, ρi, acc, ea, r, I⟩
      by_cases hlt : i < ds.length
      · refine .inr ⟨wk.go i H' (I.st.g.trans I.S.s) hlt, fun H2 => i + 1 ≤ ds.length ∧ ∃ Gi ρi acc ea r, LcJ X.K cl G1 H1 (L2.wipe σ vs) ρ2 D0 vs (lcGo fg mt me vs) ds es ρ3 (i + 1) H2 Gi ρi acc ea r, fun H2 ⟨a1, a2⟩ => ⟨ds.length - (i + 1), by omega, a1, rfl, a2⟩, fun x H2 y => ?_⟩
        have hd : ds.drop i = ds[i] :: ds.drop (i + 1) := List.drop_eq_getElem_cons hlt
        have hc := I.c
        rw [hd] at hc
        obtain ⟨ρa, c, ρb, q1, q2, q3⟩ := lcGo_cons hc
        obtain ⟨G2, x2, rx⟩ := wk.yld i Gi H' x H2 ds[i] I.st.g I.S.s (List.getElem?_eq_getElem hlt) y
        obtain ⟨p2, P2⟩ := Stp.pure I.S x2
        refine ⟨G2, ρi, ds[i], P2, rx, ρa, q1, fun σ2 g2 T2 kept => ⟨kept.wipe hsub, G2, ρa, T2, ?_⟩⟩
        rw [q2]
        intro G3 H3 g3 T3
        -- from the turn's end back to the block's slots
        have back : ∀ {G5 H5 : Hp} {ρ4 ρ5 : Env}, Stp Gi H' (L2.wipe σ vs) ρi G5 H5 σ2 ρ4 → Sr X.K cl G5 H5 σ2 ρ4 → wipeO vs ρ4 = some ρ5 → Stp Gi H' (L2.wipe σ vs) ρi G5 H5 (L2.wipe σ vs) ρ5 ∧ Sr X.K cl G5 H5 (L2.wipe σ vs) ρ5 ∧ (∀ j ∈ vs, ρ5[j]? = some Cell.no ∨ ρ5[j]? = none) := fun {G5 H5 ρ4 ρ5} a A q => by
          obtain ⟨b1, b2, b3, b4⟩ := wipeO_ok A q
          obtain ⟨c1, c2⟩ := slots_ok (σ' := L2.wipe σ vs) b2 (by rw [kept.len]) fun j => by
            by_cases hj : j ∈ vs
            · exact .inr (b4 j hj)
            · exact .inl (kept.at_ j fun z => hj (hsub j z)).symm
          exact ⟨a.trans A (b1.trans b2 c1), c2, b4⟩
        have s3 : Stp Gi H' (L2.wipe σ vs) ρi G3 H3 σ2 ρb := p2.trans P2 (g2.trans T2 g3)
        rcases q3 with ⟨rfl, e, ρ4, ρ5, es', q4, q5, q6, rfl⟩ | ⟨rfl, ρ5, q5, q6⟩
        · refine ⟨G3, ρb, T3, ?_⟩
          rw [q4]
          intro v G4 H4 g4 T4 rv
          obtain ⟨a1, a2, a3⟩ := back (s3.trans T3 g4) T4 q5
          obtain ⟨b1, b2, b3⟩ := a1.nobody I.a I.w I.n
          have hz' := I.z
          refine ⟨acc, b1, by rw [(I.l).length]; omega, hlt, G4, ρ5, acc ++ [v], ea ++ [e], es', ?_, a2.relay b3 b2, a3, b3, b2, upd_same, (I.l.mono a1.g).append (.cons rv .nil), by rw [List.length_append]; simp; omega, q6, by rw [I.e, List.append_assoc]; rfl⟩
          exact Stp.relay (I.st.trans I.S a1) hD0
        · obtain ⟨a1, a2, a3⟩ := back s3 T3 q5
          obtain ⟨b1, b2, b3⟩ := a1.nobody I.a I.w I.n
          exact ⟨hlt, G3, ρ5, acc, ea, r, I.st.trans I.S a1, a2, a3, b3, b2, b1, I.l.mono a1.g, Nat.le_succ_of_le I.z, q6, I.e⟩
      · have hi'' : i = ds.length := by omega
        subst hi''
        refine .inl ⟨wk.stop _ H' (I.st.g.trans I.S.s) (Nat.le_refl _), ?_⟩
        have hc := I.c
        rw [List.drop_length] at hc
        cases hc
        have he := I.e
        rw [List.append_nil] at he
        subst he
        obtain ⟨u1, U1⟩ := slots_ok (σ' := σ) I.S (by rw [wipe_len]) fun j => by
          by_cases hj : j ∈ vs
          · exact .inr (I.no j hj)
          · exact .inl (wipe_out hj).symm
        have nO : ¬ Owned σ ρ3 D0 := fun z => by
          rcases z with ⟨j, d, q, q'⟩ | ⟨j, d, q, q'⟩
          · refine I.w (.inl ⟨j, d, q, ?_⟩)
            rw [wipe_out fun hj => by rcases I.no j hj with z | z <;> (rw [z] at q; cases q)]; exact q'
          · refine I.w (.inr ⟨j, d, q, ?_⟩)
            rw [wipe_out fun hj => by rcases I.no j hj with z | z <;> (rw [z] at q; cases q)]; exact q'
        have all : Stp G H σ ρ Gi H' σ ρ3 := st1.trans S1 (w1.trans W1 (v1.trans V1 (I.st.trans I.S u1)))
        exact h D0 Gi H' all U1 (st1.fresh S1 (.inl hD0)) nO I.n (.lst I.a I.l)
  · rw [if_neg hz] at h; exact h.elim
theorem dlc_E (hc : X.calm = true) (hN : X.N.Nodup) (hi : DIE X cl W tg iter mi) (ok : BlkOk X.N X.env.scope scope own) (hsub : ∀ i ∈ is, i ∈ own.map (·.2))
    (hg : ∀ (s : Shared) (H : Hp) (C : Addr) (cs : List (Str × Addr)) (fp : List Addr), DGK (X.blk s H scope (compEnvC scope cs C X.env) fp) cl tg is fg)
    (ht : ∀ (s : Shared) (H : Hp) (C : Addr) (cs : List (Str × Addr)) (fp : List Addr), DBs (X.blk s H scope (compEnvC scope cs C X.env) fp) cl ifs mt)
    (he : ∀ (s : Shared) (H : Hp) (C : Addr) (cs : List (Str × Addr)) (fp : List Addr), DE (X.blk s H scope (compEnvC scope cs C X.env) fp) cl W0 elt me) (hs : ∀ x, foldedSetIterable iter X.env x = pure x := by intro _; rfl) :
    DLc X cl W (.ListComp elt [⟨tg, iter, ifs, 0⟩] scope pos) (lcE mi fg mt me (own.map (·.2))) := by
  obtain ⟨wi, p, k⟩ := hi.ex
  refine ⟨_, pe_lc hc hN p ok (fun s H C cs fp => (hg s H C cs fp).pg) (fun s H C cs fp => (ht s H C cs fp).ex) (fun s H C cs fp => (he s H C cs fp).pe) hs, fun i y py spos hy hyl hsw => ?_, lc_readE hsub k⟩
  exact ps_setLc hc hN hy hyl hsw p ok (fun s H C cs fp => (hg s H C cs fp).pg) (fun s H C cs fp => (ht s H C cs fp).ex) (fun s H C cs fp => (he s H C cs fp).pe) hs
end
end Vx
end
section
set_option maxRecDepth 100000
set_option maxHeartbeats 1000000
/-! Vx11: membership, identity of booleans, sorted, dicts, effects in calls of built-in functions. -/
namespace Vx
open PySem PySem.Spec PyProof.Rows L2
open Out (guard)

/-! ### small comparisons -/
def inD (d e : D) : Out D := match e with
  | .lst ds => guard (SeqAt.shaped (py d) && SeqAt.shaped (.list (pys ds))) (.ok (.bl ((pys ds).any fun z => PyData.eqv z (py d))))
  | _ => .stuck
def ninD (d e : D) : Out D := match e with
  | .lst ds => guard (SeqAt.shaped (py d) && SeqAt.shaped (.list (pys ds))) (.ok (.bl (!(pys ds).any fun z => PyData.eqv z (py d))))
  | _ => .stuck
def isBD : D → D → Out D
  | .bl a, .bl b => .ok (.bl (decide (a = b)))
  | _, _ => .stuck
def notBD : D → D → Out D
  | .bl a, .bl b => .ok (.bl (!decide (a = b)))
  | _, _ => .stuck
def isND (d e : D) : Out D := match e with
  | .non => .ok (.bl (isNon d))
  | _ => .stuck
def notND (d e : D) : Out D := match e with
  | .non => .ok (.bl (!isNon d))
  | _ => .stuck
section
variable {X : Cx} {cl : Nat → Addr} {W : WX} {k : Nat}
theorem cr_in (hr : Room k X.A) : CmpR X cl W .In inD := ⟨_, op_inD (by have := hr.un; omega), fun σ G H x y d e Q s rx ry h => by
  cases e <;> try exact h.elim
  rename_i ds
  obtain ⟨c, h⟩ := Post.guard h
  obtain ⟨c1, c2⟩ := Bool.and_eq_true_iff.mp c
  exact ⟨py d, pys ds, rx.dp s (plain_of_shaped c1), ry.dp s (plain_of_shaped (d := .lst ds) c2), c1, c2, h.here s (.bl _)⟩⟩
theorem cr_nin (hr : Room k X.A) : CmpR X cl W .NotIn ninD := ⟨_, op_notInD (by have := hr.un; omega), fun σ G H x y d e Q s rx ry h => by
  cases e <;> try exact h.elim
  rename_i ds
  obtain ⟨c, h⟩ := Post.guard h
  obtain ⟨c1, c2⟩ := Bool.and_eq_true_iff.mp c
  exact ⟨py d, pys ds, rx.dp s (plain_of_shaped c1), ry.dp s (plain_of_shaped (d := .lst ds) c2), c1, c2, h.here s (.bl _)⟩⟩
theorem cr_isB : CmpR X cl W .Is isBD := ⟨_, op_is_bl, fun σ G H x y d e Q s rx ry h => by
  cases d <;> try exact h.elim
  cases e <;> try exact h.elim
  rw [rx.toBl, ry.toBl]
  exact ⟨_, _, rfl, rfl, h.here s (.bl _)⟩⟩
theorem cr_notB : CmpR X cl W .IsNot notBD := ⟨_, op_isnot_bl, fun σ G H x y d e Q s rx ry h => by
  cases d <;> try exact h.elim
  cases e <;> try exact h.elim
  rw [rx.toBl, ry.toBl]
  exact ⟨_, _, rfl, rfl, h.here s (.bl _)⟩⟩
theorem cr_isN : CmpR X cl W .Is isND := ⟨_, op_isN, fun σ G H x y d e Q s rx ry h => by
  cases e <;> try exact h.elim
  rw [ry.toNon]
  refine ⟨rfl, ?_⟩
  rw [rx.isN]
  exact h.here s (.bl _)⟩
theorem cr_notN : CmpR X cl W .IsNot notND := ⟨_, op_notN, fun σ G H x y d e Q s rx ry h => by
  cases e <;> try exact h.elim
  rw [ry.toNon]
  refine ⟨rfl, ?_⟩
  rw [rx.isN]
  exact h.here s (.bl _)⟩
end

/-! ### sorted, of whole numbers -/
def isort (ns : List Int) : List Int := ns.mergeSort (fun a b => decide (a ≤ b))
theorem isort_perm (ns : List Int) : (isort ns).Perm ns := List.mergeSort_perm ns _
theorem isort_sorted (ns : List Int) : (isort ns).Pairwise (· ≤ ·) := by
  have h := List.pairwise_mergeSort (le := fun a b : Int => decide (a ≤ b)) (fun a b c h1 h2 => by simp at *; omega) (fun a b => by simp; omega) ns
  exact h.imp fun h => by simpa using h
theorem sorted_unique : ∀ {xs ys : List Int}, xs.Perm ys → xs.Pairwise (· ≤ ·) → ys.Pairwise (· ≤ ·) → xs = ys
  | [], ys, p, _, _ => by rw [List.nil_perm.mp p]
  | x :: xs, [], p, _, _ => absurd p (by simp)
  | x :: xs, y :: ys, p, hx, hy => by
    have h1 := List.pairwise_cons.mp hx
    have h2 := List.pairwise_cons.mp hy
    have e : x = y := by
      have a : x ∈ y :: ys := p.mem_iff.mp List.mem_cons_self
      have b : y ∈ x :: xs := p.mem_iff.mpr List.mem_cons_self
      rcases List.mem_cons.mp a with a | a
      · exact a
      · rcases List.mem_cons.mp b with b | b
        · exact b.symm
        · have := h1.1 y b; have := h2.1 x a; omega
    subst e
    rw [sorted_unique (List.Perm.cons_inv p) h1.2 h2.2]
def sortedD (d : D) : Out D := (itemsL d).bind fun ds => (Out.ofOpt (ints? ds)).bind fun ns => .ok (.lst ((isort ns).map .int))
section
variable {X : Cx} {cl : Nat → Addr} {W : WX} {k : Nat} {a e o i : Expr} {ma mb : PEnv → Out D} {ml : PEnv → Out (List D)} {pos p : Pos}
theorem ofOptN_ok {α : Type} {σ : Sl} {G H : Hp} {o : Option α} {f : α → Out D} {Q : VK} (h : PostN X.K cl W σ G H ((Out.ofOpt o).bind f) Q) : ∃ a, o = some a ∧ PostN X.K cl W σ G H (f a) Q := by
  cases o with
  | none => exact h.elim
  | some a => exact ⟨a, rfl, h⟩
theorem dn_sorted (hr : Room k X.A) (hm : X.mg "sorted" = none) (ha : DA X cl W [a] ml) (hg : Gl X "sorted" := by rfl) (he : starEach [a] X.env = (false, eval a X.env) :: starEach [] X.env := by rfl) :
    DN X cl W (.Call (.Name "sorted" p) [a] [] pos) (fun ρ => (ml ρ).bind (one1 sortedD)) :=
  dn_callR (fun t pa => pe_callB cr_sortedI hg hm (by decide +kernel) pa (by decide) (by decide) he) (fun σ G H vs ds Q s r h => by
    obtain ⟨v, d, rfl, rfl, rv, h⟩ := one1N_ok r h
    obtain ⟨l, xs, ds, rfl, hs, rl, h2⟩ := PostN.items rv h
    obtain ⟨ns, hn, h3⟩ := ofOptN_ok h2
    rw [ints?_some hn] at rl
    rw [RL.of_ints rl] at hs
    refine ⟨l, ns, rfl, hs H s, fun ns' q hp hw hq => ?_⟩
    rw [sorted_unique (hp.trans (isort_perm ns).symm) hw (isort_sorted ns)]
    exact PostN.newLst s h3 (RL.ints _) q hq) ha
end

/-! ### dicts -/
section
variable {κ : Type} [DecidableEq κ]
def valD (kvs : List (κ × D)) (k : κ) : Option D := (kvs.find? fun kv => decide (kv.1 = k)).map (·.2)
def putD (kvs : List (κ × D)) (k : κ) (v : D) : List (κ × D) :=
  if (kvs.any fun kv => decide (kv.1 = k)) = true then kvs.map (fun kv => if kv.1 = k then (kv.1, v) else kv) else kvs ++ [(k, v)]
def dropD (kvs : List (κ × D)) (k : κ) : List (κ × D) := kvs.filter fun kv => decide (kv.1 ≠ k)
/-- the same keys, the values read -/
inductive RK (K : PySem.W.Frag) (cl : Nat → Addr) (G : Hp) : List (κ × V) → List (κ × D) → Prop
  | nil : RK K cl G [] []
  | cons {k : κ} {v : V} {d : D} {ks : List (κ × V)} {ds : List (κ × D)} : R K cl G v d → RK K cl G ks ds → RK K cl G ((k, v) :: ks) ((k, d) :: ds)
section
variable {K : PySem.W.Frag} {cl : Nat → Addr} {G G' : Hp}
theorem RK.of : ∀ {ks : List (κ × V)} {ds : List (κ × D)}, ks.map (·.1) = ds.map (·.1) → RL K cl G (ks.map (·.2)) (ds.map (·.2)) → RK K cl G ks ds
  | [], [], _, _ => .nil
  | [], _ :: _, h, _ => by cases h
  | _ :: _, [], h, _ => by cases h
  | (k, v) :: ks, (k', d) :: ds, h, r => by
    obtain ⟨h1, h2⟩ := List.cons_eq_cons.mp h
    cases (show k = k' from h1)
    cases r with
    | cons r1 r2 => exact .cons r1 (RK.of h2 r2)
theorem RK.keys {ks : List (κ × V)} {ds : List (κ × D)} (h : RK K cl G ks ds) : ks.map (·.1) = ds.map (·.1) := by
  induction h with
  | nil => rfl
  | cons _ _ ih => rw [List.map_cons, List.map_cons, ih]
theorem RK.vals {ks : List (κ × V)} {ds : List (κ × D)} (h : RK K cl G ks ds) : RL K cl G (ks.map (·.2)) (ds.map (·.2)) := by
  induction h with
  | nil => exact .nil
  | cons a _ ih => exact .cons a ih
theorem RK.length {ks : List (κ × V)} {ds : List (κ × D)} (h : RK K cl G ks ds) : ks.length = ds.length := by
  have := congrArg List.length h.keys
  simpa using this
theorem RK.mono {ks : List (κ × V)} {ds : List (κ × D)} (e : Same G G') (h : RK K cl G ks ds) : RK K cl G' ks ds := by
  induction h with
  | nil => exact .nil
  | cons a _ ih => exact .cons (a.mono e) ih
theorem RK.val {ks : List (κ × V)} {ds : List (κ × D)} (h : RK K cl G ks ds) (k : κ) : (∃ v d, valV ks k = some v ∧ valD ds k = some d ∧ R K cl G v d) ∨ (valV ks k = none ∧ valD ds k = none) := by
  induction h with
  | nil => exact .inr ⟨rfl, rfl⟩
  | @cons j v d ks ds a _ ih =>
    unfold valV valD at ih ⊢
    by_cases e : j = k
    · rw [List.find?_cons_of_pos (by simpa using e), List.find?_cons_of_pos (by simpa using e)]
      exact .inl ⟨v, d, rfl, rfl, a⟩
    · rw [List.find?_cons_of_neg (by simpa using e), List.find?_cons_of_neg (by simpa using e)]
      exact ih
theorem RK.has {ks : List (κ × V)} {ds : List (κ × D)} (h : RK K cl G ks ds) (k : κ) : (valV ks k).isSome = (valD ds k).isSome := by
  rcases h.val k with ⟨v, d, h1, h2, _⟩ | ⟨h1, h2⟩ <;> rw [h1, h2] <;> rfl
theorem RK.any {ks : List (κ × V)} {ds : List (κ × D)} (h : RK K cl G ks ds) (k : κ) : (ks.any fun kv => decide (kv.1 = k)) = (ds.any fun kv => decide (kv.1 = k)) := by
  induction h with
  | nil => rfl
  | cons _ _ ih => rw [List.any_cons, List.any_cons, ih]
theorem RK.repl {ks : List (κ × V)} {ds : List (κ × D)} {k : κ} {v : V} {d : D} (r : R K cl G v d) (h : RK K cl G ks ds) : RK K cl G (ks.map fun kv => if kv.1 = k then (kv.1, v) else kv) (ds.map fun kv => if kv.1 = k then (kv.1, d) else kv) := by
  induction h with
  | nil => exact .nil
  | @cons j w e ks ds a _ ih =>
    rw [List.map_cons, List.map_cons]
    by_cases q : j = k
    · simp only [q, if_true]; exact .cons r (by simpa using ih)
    · simp only [q, if_false]; exact .cons a (by simpa using ih)
theorem RK.snoc {ks : List (κ × V)} {ds : List (κ × D)} {k : κ} {v : V} {d : D} (r : R K cl G v d) (h : RK K cl G ks ds) : RK K cl G (ks ++ [(k, v)]) (ds ++ [(k, d)]) := by
  induction h with
  | nil => exact .cons r .nil
  | cons a _ ih => exact .cons a ih
theorem RK.put {ks : List (κ × V)} {ds : List (κ × D)} {k : κ} {v : V} {d : D} (h : RK K cl G ks ds) (r : R K cl G v d) : RK K cl G (putK ks k v) (putD ds k d) := by
  unfold putK putD
  rw [h.any k]
  split
  · exact h.repl r
  · exact h.snoc r
theorem RK.drop {ks : List (κ × V)} {ds : List (κ × D)} (k : κ) (h : RK K cl G ks ds) : RK K cl G (dropK ks k) (dropD ds k) := by
  unfold dropK dropD
  induction h with
  | nil => exact .nil
  | @cons j w e ks ds a _ ih =>
    by_cases q : j = k
    · rw [List.filter_cons_of_neg (by simp [q]), List.filter_cons_of_neg (by simp [q])]; exact ih
    · rw [List.filter_cons_of_pos (by simp [q]), List.filter_cons_of_pos (by simp [q])]; exact .cons a ih
end
end
def keyD : D → Option Key
  | .int i => some (.inl i)
  | .str x => some (.inr x)
  | _ => none
def ofKey : Key → D
  | .inl i => .int i
  | .inr x => .str x
def kvsD : D → Option (List (Key × D))
  | .dK kvs => some kvs
  | .dF kvs => some kvs
  | _ => none
section
variable {K : PySem.W.Frag} {cl : Nat → Addr} {G H : Hp}
theorem R.key {v : V} {d : D} {k : Key} (r : R K cl G v d) (h : keyD d = some k) : v = kV k := by
  cases d <;> cases h
  · cases r; rfl
  · cases r; rfl
theorem R.ofKey (k : Key) : R K cl G (kV k) (ofKey k) := by
  cases k with
  | inl i => exact .int i
  | inr x => exact .str x
theorem RL.ofKeys : ∀ ks : List Key, RL K cl G (ks.map kV) (ks.map ofKey)
  | [] => .nil
  | k :: ks => .cons (R.ofKey k) (RL.ofKeys ks)
theorem R.dict {v : V} {d : D} {ds : List (Key × D)} (r : R K cl G v d) (h : kvsD d = some ds) : ∃ a ks, v = .ref a ∧ RK K cl G ks ds ∧ (∀ H, Same G H → Rd H a (.dK ks)) ∧ ((∃ o, d = .dF ds ∧ G a = some (.frz o (.dK ks))) ∨ d = .dK ds) := by
  cases r <;> cases h
  · rename_i a ks h1 h2 h3; exact ⟨a, ks, rfl, .of h2 h3, fun H s => .inl (s _ _ h1), .inr rfl⟩
  · rename_i a o ks h1 h2 h3; exact ⟨a, ks, rfl, .of h2 h3, fun H s => .inr ⟨o, s _ _ h1⟩, .inl ⟨o, rfl, h1⟩⟩
end
def getItD (d e : D) : Out D := (Out.ofOpt (kvsD d)).bind fun kvs => (Out.ofOpt (keyD e)).bind fun k => .ofOpt (valD kvs k)
def indD (d e : D) : Out D := (Out.ofOpt (kvsD e)).bind fun kvs => (Out.ofOpt (keyD d)).bind fun k => .ok (.bl (valD kvs k).isSome)
def nindD (d e : D) : Out D := (Out.ofOpt (kvsD e)).bind fun kvs => (Out.ofOpt (keyD d)).bind fun k => .ok (.bl (!(valD kvs k).isSome))
def keysD (d : D) : Out (List D) := match d with
  | .dF kvs => .ok (kvs.map fun kv => ofKey kv.1)
  | _ => .stuck
def listDD (d : D) : Out D := (Out.ofOpt (kvsD d)).bind fun kvs => .ok (.lst (kvs.map fun kv => ofKey kv.1))
def rInDict : R2 := fun x y H Q => ∃ a o, y = .ref a ∧ DGet H a x o ∧ Q (.bl o.isSome) H
def rNinDict : R2 := fun x y H Q => ∃ a o, y = .ref a ∧ DGet H a x o ∧ Q (.bl (!o.isSome)) H
section
variable {X : Cx} {cl : Nat → Addr} {W : WX} {k : Nat} {a e o i tg : Expr} {ma mb : PEnv → Out D} {ml : PEnv → Out (List D)} {pos p : Pos}
theorem op_inDict (hu : X.A.units + 1 < cLine) : OpR X (compareOp .In) rInDict := by
  intro pins s σ H x y v u Q I rx ry h
  obtain ⟨a, o, rfl, g, q⟩ := h
  cases ry
  exact d_in hu I g rx fun s' I' => ⟨.bl _, H, I', rfl, q⟩
theorem op_ninDict (hu : X.A.units + 1 < cLine) : OpR X (compareOp .NotIn) rNinDict := by
  intro pins s σ H x y v u Q I rx ry h
  obtain ⟨a, o, rfl, g, q⟩ := h
  cases ry
  exact d_notIn hu I g rx fun s' I' => ⟨.bl _, H, I', rfl, q⟩
theorem cr_ind (hr : Room k X.A) : CmpR X cl W .In indD := ⟨_, op_inDict (by have := hr.un; omega), fun σ G H x y d e Q s rx ry h => by
  obtain ⟨kvs, h1, h⟩ := ofOpt_ok h
  obtain ⟨k, h2, h⟩ := ofOpt_ok h
  obtain ⟨a, ks, rfl, rk, hd, _⟩ := ry.dict h1
  refine ⟨a, valV ks k, rfl, .inl ⟨ks, k, hd H s, rx.key h2, rfl⟩, ?_⟩
  rw [rk.has k]
  exact h.here s (.bl _)⟩
theorem cr_nind (hr : Room k X.A) : CmpR X cl W .NotIn nindD := ⟨_, op_ninDict (by have := hr.un; omega), fun σ G H x y d e Q s rx ry h => by
  obtain ⟨kvs, h1, h⟩ := ofOpt_ok h
  obtain ⟨k, h2, h⟩ := ofOpt_ok h
  obtain ⟨a, ks, rfl, rk, hd, _⟩ := ry.dict h1
  refine ⟨a, valV ks k, rfl, .inl ⟨ks, k, hd H s, rx.key h2, rfl⟩, ?_⟩
  rw [rk.has k]
  exact h.here s (.bl _)⟩
theorem dp_getIt {k : Nat} (hr : Room k X.A) (ha : DP X cl W o ma) (hb : DP X cl W i mb) (hs : NoSl i := by intro _ _; rfl) : DP X cl W (.Subscript o i pos) (fun ρ => (ma ρ).bind fun d => (mb ρ).bind fun e => getItD d e) := by
  obtain ⟨t, pa, ka⟩ := ha.ex
  obtain ⟨u, pb, kb⟩ := hb.ex
  refine ⟨_, pe_dget (by have := hr.un; omega) pa pb hs, fun G H σ ρ Q s rs h => ka G H σ ρ _ s rs (h.bind fun d v G1 H1 e1 r h1 => kb G1 H1 σ ρ _ e1.s (rs.mono e1.g) (h1.bind fun e w G2 H2 e2 r2 h2 => ?_))⟩
  obtain ⟨kvs, q1, h2⟩ := ofOpt_ok h2
  obtain ⟨k, q2, h2⟩ := ofOpt_ok h2
  obtain ⟨a, ks, rfl, rk, hd, _⟩ := (r.mono e2.g).dict q1
  rcases rk.val k with ⟨v, d, z1, z2, rv⟩ | ⟨z1, z2⟩
  · rw [z2] at h2
    exact ⟨a, v, rfl, .inl ⟨ks, k, hd H2 e2.s, r2.key q2, z1.symm⟩, h2.here e2.s rv⟩
  · rw [z2] at h2; exact h2.elim
theorem dn_listD (hm : X.mg "list" = none) (hc : X.calm = true) (ha : DA X cl W [a] ml) (hg : Gl X "list" := by rfl) (he : starEach [a] X.env = (false, eval a X.env) :: starEach [] X.env := by rfl) :
    DN X cl W (.Call (.Name "list" p) [a] [] pos) (fun ρ => (ml ρ).bind (one1 listDD)) :=
  dn_callR (fun t pa => pe_callTy (call_listD hc) hg hm (by decide +kernel) pa (by decide) (by decide) he) (fun σ G H vs ds Q s r h => by
    obtain ⟨v, d, rfl, rfl, rv, h⟩ := one1N_ok r h
    obtain ⟨kvs, h1, h⟩ := ofOptN_ok h
    obtain ⟨q, ks, rfl, rk, hd, _⟩ := rv.dict h1
    refine ⟨q, ks, rfl, hd H s, fun p hp => ?_⟩
    have e : (ks.map fun kv => kV kv.1) = (kvs.map (·.1)).map kV := by rw [← rk.keys, List.map_map]; rfl
    have e2 : (kvs.map fun kv => ofKey kv.1) = (kvs.map (·.1)).map ofKey := by rw [List.map_map]; rfl
    rw [e]
    rw [e2] at h
    exact PostN.newLst s h (RL.ofKeys _) p hp) ha
/-- a dict of one's own, no longer to be changed -/
def tLock (t : TE) : TE := fun σ H Q => t σ H fun x H1 => ∃ a ks, x = .ref a ∧ H1 a = some (.dK ks) ∧ ∀ o, Q (.ref a) (upd H1 a (.frz o (.dK ks)))
theorem pe_lock {t : TE} (h : PE X e t) : PE X e (tLock t) :=
  ⟨fun pins s σ H Q I q => thn (h.run pins s σ H _ I q) fun u s1 ⟨x, H1, I1, rx, a, ks, ex, e1, q1⟩ => by
    subst ex
    obtain ⟨o, I2⟩ := I1.lock e1 True.intro
    exact ⟨.ref a, _, I2, rx, q1 o⟩⟩
def lockD (d : D) : Out D := match d with
  | .dK kvs => .ok (.dF kvs)
  | _ => .stuck
theorem dp_lock (h : DN X cl W e ma) : DP X cl W e (fun ρ => (ma ρ).bind lockD) := by
  obtain ⟨t, p, k⟩ := h.ex
  refine ⟨_, pe_lock p, fun G H σ ρ Q s rs h => k G H σ ρ _ s rs ?_⟩
  cases q : ma ρ with
  | stuck => rw [q] at h; exact h
  | exc x => rw [q] at h; exact h
  | ok d =>
    rw [q] at h
    intro p G' H' x hp hn t
    cases d <;> try exact h.elim
    rename_i kvs
    have h : Post X.K cl W σ G H (.ok (.dF kvs)) Q := h
    cases t with
    | dK h1 h2 h3 =>
      rename_i ks
      refine ⟨p, ks, rfl, h1, fun o => ?_⟩
      have xx : Ext G H (upd G' p (.frz o (.dK ks))) (upd H' p (.frz o (.dK ks))) := by
        refine ⟨fun b u z => ?_, fun b u z => ?_, fun b u z => ?_, fun b z z' => ?_⟩
        · rw [upd_ne (ne_of_none (x.g _ _ z) hn)]; exact x.g _ _ z
        · rw [upd_ne (ne_of_none z hp)]; exact x.h _ _ z
        · by_cases hb : b = p
          · subst hb; rw [upd_same] at z ⊢; exact z
          · rw [upd_ne hb] at z ⊢; exact x.s _ _ z
        · by_cases hb : b = p
          · subst hb; exact hp
          · rw [upd_ne hb] at z'; exact x.f b z z'
      exact h (.ref p) _ _ xx (.dF upd_same h2 (h3.mono fun b u z => by rw [upd_ne (ne_of_none z hn)]; exact z))
theorem walk_frz {G : Hp} {d : Addr} {o : Obj} {ks : List (Key × V)} {K : PySem.W.Frag} (h : G d = some (.frz o (.dK ks))) : Vx.Walk K cl (Itk d o ks) G (ks.map fun kv => ofKey kv.1) := by
  refine ⟨fun i H s hi => ⟨s _ _ h, by simpa using hi⟩, fun i H s hi => ⟨s _ _ h, by simpa using hi⟩, fun i G2 H x H' d' e s hd y => ?_⟩
  obtain ⟨rfl, k, v, h1, rfl⟩ := y
  rw [List.getElem?_map, h1] at hd
  cases hd
  exact ⟨G2, .refl s, R.ofKey k⟩
theorem di_dict (ha : DP X cl W a ma) : DI X cl W tg a (fun ρ => (ma ρ).bind keysD) := by
  obtain ⟨t, pa, k⟩ := ha.ex
  refine ⟨_, pi_keys pa, fun G H σ ρ Q s rs h => k G H σ ρ _ s rs (PostI.bind h fun d v G1 H1 e r h1 => ?_)⟩
  cases r <;> try exact h1.elim
  rename_i a o ks ds h2 h3 h4
  have hk : (ks.map fun kv => ofKey kv.1) = (ds.map fun kv => ofKey kv.1) := by
    have := congrArg (List.map ofKey) h3
    rw [List.map_map, List.map_map] at this
    exact this
  refine ⟨a, o, rfl, .inl ⟨ks, e.s _ _ h2, ?_⟩⟩
  refine PostI.here e.s (show PostI X.K cl W σ G1 H1 (.ok (ds.map fun kv => ofKey kv.1)) Q from h1) ?_
  rw [← hk]
  exact walk_frz h2
end
end Vx
end
section
set_option maxRecDepth 100000
set_option maxHeartbeats 1000000
/-! Vx12: effects in calls of built-in functions and in choices; several values stored at once; dicts changed. -/
namespace Vx
open PySem PySem.Spec PyProof.Rows L2
open Out (guard)

section
variable {X : Cx} {cl : Nat → Addr} {W : WX} {k : Nat} {a b c e : Expr} {es : List Expr} {ma mb : Env → Res D} {mc : Env → Res Bool} {ml : Env → Res (List D)} {pos p : Pos}
theorem de_callR {r : List V → Hp → VK → Prop} {f : List D → Out D} (hc : ∀ t, PA X es t → PE X e (tCB r t))
    (hf : ∀ (σ : Sl) (G H : Hp) (vs : List V) (ds : List D) (Q : VK), Same G H → RL X.K cl G vs ds → Post X.K cl W σ G H (f ds) Q → r vs H Q)
    (ha : DAE X cl W es ml) : DE X cl W e (fun ρ => (ml ρ).bind fun ds ρ => liftO (f ds) ρ) := by
  obtain ⟨t, pa, k⟩ := ha.ex
  refine ⟨_, hc t pa, fun G H σ ρ Q S h => k G H σ ρ _ S (PostEL.bind h fun ds vs ρ1 G1 H1 st S1 r h1 => hf σ G1 H1 vs ds Q S1.s r (PostE.lift S1 h1))⟩
theorem de_int1 (hm : X.mg "int" = none) (ha : DAE X cl W [a] ml) (hg : Gl X "int" := by rfl) (he : starEach [a] X.env = (false, eval a X.env) :: starEach [] X.env := by rfl) :
    DE X cl W (.Call (.Name "int" p) [a] [] pos) (fun ρ => (ml ρ).bind fun ds ρ => liftO ((one1 intD) ds) ρ) :=
  de_callR (fun t pa => pe_callTy call_int1 hg hm PyProof.Rows.boot_int pa (by decide) (by decide) he) (fun σ G H vs ds Q s r h => by
    obtain ⟨v, d, rfl, rfl, rv, h⟩ := one1_ok r h
    cases d <;> try exact h.elim
    · rw [rv.toBl]; exact .inr ⟨_, rfl, h.here s (.int _)⟩
    · rw [rv.toInt]; exact .inl ⟨_, rfl, h.here s (.int _)⟩) ha
theorem de_repr (hgd : X.A.guards = some []) (hu : X.A.units + 128 < cLine) (hm : X.mg "repr" = none) (ha : DAE X cl W [a] ml) (hg : Gl X "repr" := by rfl) (he : starEach [a] X.env = (false, eval a X.env) :: starEach [] X.env := by rfl) :
    DE X cl W (.Call (.Name "repr" p) [a] [] pos) (fun ρ => (ml ρ).bind fun ds ρ => liftO ((one1 reprD) ds) ρ) :=
  de_callR (fun t pa => pe_callB (call_repr hgd hu) hg hm (by decide +kernel) pa (by decide) (by decide) he) (fun σ G H vs ds Q s r h => by
    obtain ⟨v, d, rfl, rfl, rv, h⟩ := one1_ok r h
    obtain ⟨h1, h2, h3, h4, h5⟩ := reprD_ok h
    exact ⟨v, py d, rfl, rv.dp s (plain_of_show d h2), h1, h2, h3, h4, h5.here s (.str _)⟩) ha
theorem de_max (hm : X.mg "max" = none) (hc : X.calm = true) (ha : DAE X cl W (e :: es) ml) (hg : Gl X "max" := by rfl) (he : starEach (e :: es) X.env = (false, eval e X.env) :: starEach es X.env := by rfl) (hpl : (backTo pos (starEach es X.env)).any (·.1) = false := by rfl) :
    DE X cl W (.Call (.Name "max" p) (e :: es) [] pos) (fun ρ => (ml ρ).bind fun ds ρ => liftO (maxD ds) ρ) :=
  de_callR (fun t pa => pe_callB ((call_max2 hc).or (cr_max hc)) hg hm boot_max pa (by decide) (by decide) he hpl) (fun σ G H vs ds Q s r h => by
    unfold maxD at h
    split at h
    · cases r with
      | cons r1 r2 =>
        cases r2 with
        | cons r2 r3 =>
          cases r1; cases r2; cases r3
          exact .inl ⟨_, _, rfl, h.here s (.int _)⟩
    · cases r with
      | cons r1 r2 =>
        cases r2
        obtain ⟨l, xs, ds, rfl, hs, rl, h2⟩ := Post.items r1 h
        obtain ⟨ns, hn, h3⟩ := ofOpt_ok h2
        obtain ⟨h4, h5⟩ := guard_ok h3
        rw [ints?_some hn] at rl
        rw [RL.of_ints rl] at hs
        refine .inr ⟨l, ns, rfl, hs H s, h4, fun m hm hu => ?_⟩
        rw [maxOf_is hm hu]
        exact h5.here s (.int _)
    · exact h.elim) ha
theorem de_min (hm : X.mg "min" = none) (hc : X.calm = true) (ha : DAE X cl W (e :: es) ml) (hg : Gl X "min" := by rfl) (he : starEach (e :: es) X.env = (false, eval e X.env) :: starEach es X.env := by rfl) (hpl : (backTo pos (starEach es X.env)).any (·.1) = false := by rfl) :
    DE X cl W (.Call (.Name "min" p) (e :: es) [] pos) (fun ρ => (ml ρ).bind fun ds ρ => liftO (minD ds) ρ) :=
  de_callR (fun t pa => pe_callB ((call_min2 hc).or (cr_min hc)) hg hm boot_min pa (by decide) (by decide) he hpl) (fun σ G H vs ds Q s r h => by
    unfold minD at h
    split at h
    · cases r with
      | cons r1 r2 =>
        cases r2 with
        | cons r2 r3 =>
          cases r1; cases r2; cases r3
          exact .inl ⟨_, _, rfl, h.here s (.int _)⟩
    · cases r with
      | cons r1 r2 =>
        cases r2
        obtain ⟨l, xs, ds, rfl, hs, rl, h2⟩ := Post.items r1 h
        obtain ⟨ns, hn, h3⟩ := ofOpt_ok h2
        obtain ⟨h4, h5⟩ := guard_ok h3
        rw [ints?_some hn] at rl
        rw [RL.of_ints rl] at hs
        refine .inr ⟨l, ns, rfl, hs H s, h4, fun m hm hu => ?_⟩
        rw [minOf_is hm hu]
        exact h5.here s (.int _)
    · exact h.elim) ha
theorem de_len (hm : X.mg "len" = none) (ha : DAE X cl W [a] ml) (hg : Gl X "len" := by rfl) (he : starEach [a] X.env = (false, eval a X.env) :: starEach [] X.env := by rfl) :
    DE X cl W (.Call (.Name "len" p) [a] [] pos) (fun ρ => (ml ρ).bind fun ds ρ => liftO ((one1 lenD) ds) ρ) :=
  de_callR (fun t pa => pe_callB call_len hg hm boot_len pa (by decide) (by decide) he) (fun σ G H vs ds Q s r h => by
    obtain ⟨v, d, rfl, rfl, rv, h⟩ := one1_ok r h
    unfold lenD at h
    split at h
    · obtain ⟨q, xs, rfl, h1, r1⟩ := rv.toLst
      exact ⟨_, _, rfl, .inl ⟨xs, seq_of s h1, r1.length.symm⟩, h.here s (.int _)⟩
    · obtain ⟨q, xs, rfl, h1, r1, h0⟩ := rv.toTup
      exact ⟨_, _, rfl, .inr ⟨xs, s.sqT h1, r1.length.symm⟩, h.here s (.int _)⟩
    · obtain ⟨q, rfl, h1⟩ := rv.toScr
      exact ⟨_, _, rfl, .inl ⟨_, s.seq h1, by rw [List.length_map]⟩, h.here s (.int _)⟩
    · cases rv
      obtain ⟨c, h⟩ := guard_ok h
      exact ⟨_, _, rfl, ⟨c, rfl⟩, h.here s (.int _)⟩
    · exact h.elim) ha
/-- a if c else b -/
theorem de_if (hc : DB X cl W c mc) (ha : DE X cl W a ma) (hb : DE X cl W b mb) : DE X cl W (.IfExp c a b pos) (fun ρ => (mc ρ).bind fun c ρ => if c = true then ma ρ else mb ρ) := by
  obtain ⟨t, pc, kc⟩ := hc.ex
  obtain ⟨u, pa, ka⟩ := ha.ex
  obtain ⟨v, pb, kb⟩ := hb.ex
  refine ⟨_, pe_ifExp pc pa pb, fun G H σ ρ Q S h => kc G H σ ρ _ S ?_⟩
  cases q : mc ρ with
  | stuck => rw [q] at h; exact h
  | exc x ρ1 => rw [q] at h; exact h
  | ok c ρ1 =>
    rw [q] at h
    intro G1 H1 st S1
    cases c with
    | true => exact ka G1 H1 σ ρ1 Q S1 (PostE.on st S1 h)
    | false => exact kb G1 H1 σ ρ1 Q S1 (PostE.on st S1 h)
theorem de_not (ha : DE X cl W a ma) : DE X cl W (.UnaryOp .Not a pos) (fun ρ => ((ma ρ).bind toBE).bind fun c ρ => .ok (.bl (!c)) ρ) := by
  obtain ⟨t, pa, ka⟩ := ha.ex
  refine ⟨_, pe_not pa, fun G H σ ρ Q S h => ka G H σ ρ _ S ?_⟩
  cases q : ma ρ with
  | stuck => rw [q] at h; exact h
  | exc x ρ1 => rw [q] at h; exact h
  | ok d ρ1 =>
    rw [q] at h
    intro v G1 H1 st S1 r
    cases d <;> try exact h.elim
    rename_i b
    rw [r.toBl]
    exact ⟨b, rfl, PostE.here S1 (PostE.on st S1 h) (.bl _)⟩
end

/-! ### several values at once -/
inductive FL (K : PySem.W.Frag) (cl : Nat → Addr) (P : Addr → Prop) (G H : Hp) (σ : Sl) (ρ : Env) : List V → List (Bool × D) → List Addr → Prop
  | nil : FL K cl P G H σ ρ [] [] []
  | old {v : V} {d : D} {vs : List V} {ds : List (Bool × D)} {ps : List Addr} : R K cl G v d → FL K cl P G H σ ρ vs ds ps → FL K cl P G H σ ρ (v :: vs) ((false, d) :: ds) ps
  | new {p : Addr} {d : D} {vs : List V} {ds : List (Bool × D)} {ps : List Addr} : P p → ¬ Owned σ ρ p → G p = none → Top K cl G H p d → p ∉ ps → FL K cl P G H σ ρ vs ds ps → FL K cl P G H σ ρ (.ref p :: vs) ((true, d) :: ds) (p :: ps)
section
variable {K : PySem.W.Frag} {cl : Nat → Addr} {P P' : Addr → Prop} {G H G1 H1 : Hp} {σ σ1 : Sl} {ρ ρ1 ρ2 : Env}
theorem FL.imp {vs : List V} {ds : List (Bool × D)} {ps : List Addr} (h : FL K cl P G H σ ρ vs ds ps) (k : ∀ p, P p → P' p) : FL K cl P' G H σ ρ vs ds ps := by
  induction h with
  | nil => exact .nil
  | old r _ ih => exact .old r ih
  | new a b c d e _ ih => exact .new (k _ a) b c d e ih
theorem FL.ps {vs : List V} {ds : List (Bool × D)} {ps : List Addr} (h : FL K cl P G H σ ρ vs ds ps) : ∀ p ∈ ps, P p := by
  induction h with
  | nil => exact fun p h => by cases h
  | old r _ ih => exact ih
  | new a b c d e _ ih =>
    intro p h
    rcases List.mem_cons.mp h with rfl | h
    · exact a
    · exact ih p h
theorem FL.length {vs : List V} {ds : List (Bool × D)} {ps : List Addr} (h : FL K cl P G H σ ρ vs ds ps) : vs.length = ds.length := by
  induction h with
  | nil => rfl
  | old _ _ ih => rw [List.length_cons, List.length_cons, ih]
  | new _ _ _ _ _ _ ih => rw [List.length_cons, List.length_cons, ih]
def storeS : List Nat → List V → Sl → Sl
  | i :: is, v :: vs, σ => storeS is vs (σ.set i (some v))
  | _, _, σ => σ
def storeL : List Nat → List (Bool × D) → Env → Option Env
  | i :: is, (b, d) :: ds, ρ => (setC ρ i (if b = true then .ow d else .sh d)).bind (storeL is ds)
  | [], [], ρ => some ρ
  | _, _, _ => none
theorem owned_set {i : Nat} {v : V} {c : Cell} {q : Addr} (hl : i < ρ.length) (hs : ρ.length = σ.length) (h : Owned (σ.set i (some v)) (ρ.set i c) q) : Owned σ ρ q ∨ ((∃ d, c = .ow d ∨ c = .io d) ∧ v = .ref q) := by
  have at_ : ∀ {j : Nat} {e : Cell}, (ρ.set i c)[j]? = some e → (σ.set i (some v))[j]? = some (some (.ref q)) → (j = i ∧ e = c ∧ v = .ref q) ∨ (ρ[j]? = some e ∧ σ[j]? = some (some (.ref q))) := fun {j e} h1 h2 => by
    by_cases hj : j = i
    · subst hj
      rw [List.getElem?_set_self hl] at h1
      rw [List.getElem?_set_self (by omega)] at h2
      cases h1
      injection h2 with h2
      injection h2 with h2
      exact .inl ⟨rfl, rfl, h2⟩
    · rw [List.getElem?_set_ne (Ne.symm hj)] at h1 h2
      exact .inr ⟨h1, h2⟩
  rcases h with ⟨j, d, h1, h2⟩ | ⟨j, d, h1, h2⟩
  · rcases at_ h1 h2 with ⟨_, e, ev⟩ | ⟨a, b⟩
    · exact .inr ⟨⟨d, .inl e.symm⟩, ev⟩
    · exact .inl (.inl ⟨j, d, a, b⟩)
  · rcases at_ h1 h2 with ⟨_, e, ev⟩ | ⟨a, b⟩
    · exact .inr ⟨⟨d, .inr e.symm⟩, ev⟩
    · exact .inl (.inr ⟨j, d, a, b⟩)
theorem FL.set {i : Nat} {v : V} {c : Cell} {vs : List V} {ds : List (Bool × D)} {ps : List Addr} (hl : i < ρ.length) (hs : ρ.length = σ.length) (hv : (∃ d, c = .ow d ∨ c = .io d) → ∀ q, v = .ref q → q ∉ ps) (h : FL K cl P G H σ ρ vs ds ps) : FL K cl P G H (σ.set i (some v)) (ρ.set i c) vs ds ps := by
  induction h with
  | nil => exact .nil
  | old r _ ih => exact .old r (ih hv)
  | new a b c' d e _ ih =>
    refine .new a (fun z => ?_) c' d e (ih fun x q y z => hv x q y (List.mem_cons_of_mem _ z))
    rcases owned_set hl hs z with z | ⟨x, y⟩
    · exact b z
    · exact hv x _ y List.mem_cons_self
theorem storeL_ok : ∀ {is : List Nat} {vs : List V} {ds : List (Bool × D)} {ps : List Addr} {σ1 : Sl} {ρ1 ρ2 : Env}, FL K cl (fun p => H p = none ∨ OwnedW σ ρ p) G1 H1 σ1 ρ1 vs ds ps → storeL is ds ρ1 = some ρ2 → Stp G H σ ρ G1 H1 σ1 ρ1 → Sr K cl G1 H1 σ1 ρ1 →
    Stp G H σ ρ G1 H1 (storeS is vs σ1) ρ2 ∧ Sr K cl G1 H1 (storeS is vs σ1) ρ2
  | [], vs, ds, ps, σ1, ρ1, ρ2, f, h, st, S => by
    cases ds with
    | nil => cases f; cases h; exact ⟨st, S⟩
    | cons d ds => cases h
  | i :: is, _, _, _, σ1, ρ1, ρ2, .nil, h, st, S => by cases h
  | i :: is, _, _, ps, σ1, ρ1, ρ2, .old (v := v) (d := d) (vs := vs) (ds := ds) r f, h, st, S => by
    obtain ⟨ρa, h1, h2⟩ := Option.bind_eq_some_iff.mp (show (setC ρ1 i (.sh d)).bind (storeL is ds) = some ρ2 from h)
    obtain ⟨s2, S2⟩ := setSh_ok st S r h1
    obtain ⟨e, hl, _⟩ := setC_some h1
    subst e
    have f2 := f.set (v := v) (c := .sh d) hl S.len fun ⟨_, z⟩ => by rcases z with z | z <;> cases z
    exact storeL_ok (is := is) (vs := vs) (ds := ds) f2 h2 s2 S2
  | i :: is, _, _, _, σ1, ρ1, ρ2, .new (p := p) (d := d) (vs := vs) (ds := ds) (ps := ps) a b c t np f, h, st, S => by
    obtain ⟨ρa, h1, h2⟩ := Option.bind_eq_some_iff.mp (show (setC ρ1 i (.ow d)).bind (storeL is ds) = some ρ2 from h)
    obtain ⟨s2, S2⟩ := setOw_ok st S a b c t h1
    obtain ⟨e, hl, _⟩ := setC_some h1
    subst e
    have f2 := f.set (v := .ref p) (c := .ow d) hl S.len fun _ q z => by cases z; exact np
    exact storeL_ok (is := is) (vs := vs) (ds := ds) f2 h2 s2 S2
end
theorem storeL_len : ∀ {is : List Nat} {ds : List (Bool × D)} {ρ ρ' : Env}, storeL is ds ρ = some ρ' → ds.length = is.length
  | [], [], _, _, _ => rfl
  | [], _ :: _, _, _, h => by cases h
  | _ :: _, [], _, _, h => by cases h
  | i :: is, (b, d) :: ds, ρ, ρ', h => by
    obtain ⟨ρ1, h1, h2⟩ := Option.bind_eq_some_iff.mp (show (setC ρ i (if b = true then .ow d else .sh d)).bind (storeL is ds) = some ρ' from h)
    rw [List.length_cons, List.length_cons, storeL_len h2]
def PostK (K : PySem.W.Frag) (cl : Nat → Addr) (W : WX) (G H : Hp) (σ : Sl) (ρ : Env) (o : Res (List (Bool × D))) (Q : List V → Hp → Prop) : Prop := match o with
  | .stuck => False
  | .ok ds ρ' => ∀ vs ps G' H', Stp G H σ ρ G' H' σ ρ' → Sr K cl G' H' σ ρ' → FL K cl (fun p => H p = none ∨ OwnedW σ ρ p) G' H' σ ρ' vs ds ps → Q vs H'
  | .exc x ρ' => ∀ c dx G' H', Stp G H σ ρ G' H' σ ρ' → Sr K cl G' H' σ ρ' → RX K cl G' H' c dx x → W c dx σ H'
structure DKL (X : Cx) (cl : Nat → Addr) (W : WX) (es : List Expr) (m : Env → Res (List (Bool × D))) : Prop where
  ex : ∃ t : TA, PA X es t ∧ ∀ (G H : Hp) (σ : Sl) (ρ : Env) (Q : List V → Hp → Prop), Sr X.K cl G H σ ρ → PostK X.K cl W G H σ ρ (m ρ) Q → t σ H Q
section
variable {X : Cx} {cl : Nat → Addr} {W : WX} {fr : Bool} {a b c e : Expr} {es : List Expr} {m : Env → Res D} {mr : Env → Res (List (Bool × D))} {pos : Pos}
theorem dkl_nil : DKL X cl W [] (fun ρ => .ok [] ρ) := ⟨_, pa_nil, fun G H σ ρ Q S h => h [] [] G H .refl S .nil⟩
theorem dkl_old (ha : DE X cl W e m) (hr : DKL X cl W es mr) (hs : starEach (e :: es) X.env = (false, eval e X.env) :: starEach es X.env := by rfl) : DKL X cl W (e :: es) (fun ρ => (m ρ).bind fun d ρ => (mr ρ).bind fun ds ρ => .ok ((false, d) :: ds) ρ) := by
  obtain ⟨t, p, k⟩ := ha.ex
  obtain ⟨u, p2, k2⟩ := hr.ex
  refine ⟨_, pa_cons p p2 hs, fun G H σ ρ Q S h => k G H σ ρ _ S ?_⟩
  cases q : m ρ with
  | stuck => rw [q] at h; exact h
  | exc x ρ1 => rw [q] at h; exact h
  | ok d ρ1 =>
    rw [q] at h
    intro v G1 H1 st S1 r
    refine k2 G1 H1 σ ρ1 _ S1 ?_
    have h : PostK X.K cl W G H σ ρ ((mr ρ1).bind fun ds ρ => .ok ((false, d) :: ds) ρ) Q := h
    cases q2 : mr ρ1 with
    | stuck => rw [q2] at h; exact h
    | exc x ρ2 => rw [q2] at h; exact fun c dx G2 H2 s2 S2 rx => h c dx G2 H2 (st.trans S1 s2) S2 rx
    | ok ds ρ2 =>
      rw [q2] at h
      exact fun vs ps G2 H2 s2 S2 f => h (v :: vs) ps G2 H2 (st.trans S1 s2) S2 (.old (r.mono s2.g) (f.imp fun p hp => st.fresh S1 hp))
theorem dkl_new (ha : DF X cl W e m) (hr : DKL X cl W es mr) (hs : starEach (e :: es) X.env = (false, eval e X.env) :: starEach es X.env := by rfl) : DKL X cl W (e :: es) (fun ρ => (m ρ).bind fun d ρ => (mr ρ).bind fun ds ρ => .ok ((true, d) :: ds) ρ) := by
  obtain ⟨t, p, k⟩ := ha.ex
  obtain ⟨u, p2, k2⟩ := hr.ex
  refine ⟨_, pa_cons p p2 hs, fun G H σ ρ Q S h => k G H σ ρ _ S ?_⟩
  cases q : m ρ with
  | stuck => rw [q] at h; exact h
  | exc x ρ1 => rw [q] at h; exact h
  | ok d ρ1 =>
    rw [q] at h
    intro p G1 H1 st S1 hp ho hn tp
    refine k2 G1 H1 σ ρ1 _ S1 ?_
    have h : PostK X.K cl W G H σ ρ ((mr ρ1).bind fun ds ρ => .ok ((true, d) :: ds) ρ) Q := h
    cases q2 : mr ρ1 with
    | stuck => rw [q2] at h; exact h
    | exc x ρ2 => rw [q2] at h; exact fun c dx G2 H2 s2 S2 rx => h c dx G2 H2 (st.trans S1 s2) S2 rx
    | ok ds ρ2 =>
      rw [q2] at h
      intro vs ps G2 H2 s2 S2 f
      obtain ⟨o, ho1⟩ := tp.there
      obtain ⟨b1, b2, b3⟩ := s2.nobody ho1 ho hn
      refine h (.ref p :: vs) (p :: ps) G2 H2 (st.trans S1 s2) S2 (.new hp b2 b3 (tp.mono s2.g fun u z => by rw [ho1] at z; cases z; exact b1) (fun z => ?_) (f.imp fun p hp => st.fresh S1 hp))
      rcases f.ps p z with y | y
      · rw [ho1] at y; cases y
      · exact ho (.inl y)
theorem ds_par2 (i j : Nat) {x y : Str} {px py pt : Pos} {kt k2 pt2} (ha : DKL X cl W [a, b] mr) (hc : X.calm = true := by rfl) (hN : X.N.Nodup := by decide) (hi : X.N[i]? = some x := by rfl) (hj : X.N[j]? = some y := by rfl) (hij : i ≠ j := by decide)
    (hx : X.env.scope.names.lookup x = some .local := by rfl) (hy : X.env.scope.names.lookup y = some .local := by rfl)
    (hw : swappedStores [.Tuple [.Name x px, .Name y py] kt pt] (.Tuple [a, b] k2 pt2) X.env = pure (some [x, y]) := by rfl)
    (hs : swapsWithSole [.Tuple [.Name x px, .Name y py] kt pt] (.Tuple [a, b] k2 pt2) pos.line X.env = pure false := by rfl) :
    DS X cl W fr (.Assign [.Tuple [.Name x px, .Name y py] kt pt] (.Tuple [a, b] k2 pt2) pos) (fun ρ => (mr ρ).fin fun ds ρ => orStuck (storeL [i, j] ds ρ) .nx) := by
  obtain ⟨t, p, k⟩ := ha.ex
  refine ⟨_, ps_par hc hN hi hj hij hx hy p hw hs, fun G H σ ρ D S h => k G H σ ρ _ S ?_⟩
  cases q : mr ρ with
  | stuck => rw [q] at h; exact h
  | exc x ρ1 => rw [q] at h; exact fun c dx G1 H1 st S1 rx => h c dx σ G1 H1 st S1 rx
  | ok ds ρ1 =>
    rw [q] at h
    intro vs ps G1 H1 st S1 f
    obtain ⟨ρ2, q2, h2⟩ := PostS.orS h
    obtain ⟨s3, S3⟩ := storeL_ok f q2 st S1
    have hv : ∃ v w, vs = [v, w] := by
      have hl := f.length.trans (storeL_len q2)
      match vs, hl with
      | [v, w], _ => exact ⟨v, w, rfl⟩
    obtain ⟨v, w, rfl⟩ := hv
    exact ⟨v, w, rfl, h2 _ G1 H1 s3 S3⟩
theorem ds_par3 (i j l : Nat) {x y z : Str} {px py pz pt : Pos} {kt k2 pt2} (ha : DKL X cl W [a, b, c] mr) (hc : X.calm = true := by rfl) (hN : X.N.Nodup := by decide) (hi : X.N[i]? = some x := by rfl) (hj : X.N[j]? = some y := by rfl) (hl : X.N[l]? = some z := by rfl) (hij : i ≠ j := by decide) (hil : i ≠ l := by decide) (hjl : j ≠ l := by decide)
    (hx : X.env.scope.names.lookup x = some .local := by rfl) (hy : X.env.scope.names.lookup y = some .local := by rfl) (hz : X.env.scope.names.lookup z = some .local := by rfl)
    (hw : swappedStores [.Tuple [.Name x px, .Name y py, .Name z pz] kt pt] (.Tuple [a, b, c] k2 pt2) X.env = pure (some [x, y, z]) := by rfl)
    (hs : swapsWithSole [.Tuple [.Name x px, .Name y py, .Name z pz] kt pt] (.Tuple [a, b, c] k2 pt2) pos.line X.env = pure false := by rfl) :
    DS X cl W fr (.Assign [.Tuple [.Name x px, .Name y py, .Name z pz] kt pt] (.Tuple [a, b, c] k2 pt2) pos) (fun ρ => (mr ρ).fin fun ds ρ => orStuck (storeL [i, j, l] ds ρ) .nx) := by
  obtain ⟨t, p, k⟩ := ha.ex
  refine ⟨_, ps_par3 hc hN hi hj hl hij hil hjl hx hy hz p hw hs, fun G H σ ρ D S h => k G H σ ρ _ S ?_⟩
  cases q : mr ρ with
  | stuck => rw [q] at h; exact h
  | exc x ρ1 => rw [q] at h; exact fun c dx G1 H1 st S1 rx => h c dx σ G1 H1 st S1 rx
  | ok ds ρ1 =>
    rw [q] at h
    intro vs ps G1 H1 st S1 f
    obtain ⟨ρ2, q2, h2⟩ := PostS.orS h
    obtain ⟨s3, S3⟩ := storeL_ok f q2 st S1
    have hv : ∃ u v w, vs = [u, v, w] := by
      have hl' := f.length.trans (storeL_len q2)
      match vs, hl' with
      | [u, v, w], _ => exact ⟨u, v, w, rfl⟩
    obtain ⟨u, v, w, rfl⟩ := hv
    exact ⟨u, v, w, rfl, h2 _ G1 H1 s3 S3⟩
end
end Vx
end
section
set_option maxRecDepth 100000
set_option maxHeartbeats 1000000
/-! Vx13: objects of one's own classes; targets that change objects; calls by keywords. -/
namespace Vx
open PySem PySem.Spec PyProof.Rows L2
open Out (guard)

/-! ### fields -/
section
variable {K : PySem.W.Frag} {cl : Nat → Addr} {G H : Hp}
theorem RK.lookup {fs : List (Str × V)} {ds : List (Str × D)} (h : RK K cl G fs ds) (f : Str) : (∃ v d, fs.lookup f = some v ∧ ds.lookup f = some d ∧ R K cl G v d) ∨ (fs.lookup f = none ∧ ds.lookup f = none) := by
  induction h with
  | nil => exact .inr ⟨rfl, rfl⟩
  | @cons g v d fs ds a _ ih =>
    rw [List.lookup_cons, List.lookup_cons]
    cases q : (f == g) with
    | true => exact .inl ⟨v, d, rfl, rfl, a⟩
    | false => exact ih
def putFD (f : Str) (d : D) : List (Str × D) → List (Str × D)
  | [] => [(f, d)]
  | (g, x) :: r => if g = f then (g, d) :: r else (g, x) :: putFD f d r
theorem RK.putF {f : Str} {v : V} {d : D} (r : R K cl G v d) {fs : List (Str × V)} {ds : List (Str × D)} (h : RK K cl G fs ds) : RK K cl G (L2.putF f v fs) (putFD f d ds) := by
  induction h with
  | nil => exact .cons r .nil
  | @cons g w e fs ds a b ih =>
    unfold L2.putF putFD
    split
    · exact .cons r b
    · exact .cons a ih
theorem R.inst {v : V} {n : Nat} {ds : List (Str × D)} (r : R K cl G v (.ins n ds)) : ∃ a dx fs, v = .ref a ∧ G a = some (.ins (cl n) dx fs) ∧ RK K cl G fs ds := by
  cases r with
  | ins h1 h2 h3 => exact ⟨_, _, _, rfl, h1, .of h2 h3⟩
end
def fldD (n : Nat) (f : Str) : D → Out D
  | .ins k fs => guard (decide (k = n)) (.ofOpt (fs.lookup f))
  | _ => .stuck
section
variable {X : Cx} {cl : Nat → Addr} {W : WX} {e : Expr} {ma : PEnv → Out D} {pos : Pos}
/-- e.f, a field -/
theorem dp_fld (n : Nat) {f : Str} (hC : Cls X.K (cl n)) (hn : NoAttr X.K (cl n) f) (ha : DP X cl W e ma) (hb : attributeBase e f X.env (eval e X.env) = eval e X.env := by rfl) : DP X cl W (.Attribute e f pos) (fun ρ => (ma ρ).bind (fldD n f)) := by
  obtain ⟨t, p, k⟩ := ha.ex
  refine ⟨_, pe_fld p hb, fun G H σ ρ Q s rs h => k G H σ ρ _ s rs (h.bind fun d v G1 H1 e1 r h1 => ?_)⟩
  cases d <;> try exact h1.elim
  rename_i m ds
  obtain ⟨c, h3⟩ := guard_ok (show Post X.K cl W σ G1 H1 (guard (decide (m = n)) (.ofOpt (ds.lookup f))) Q from h1)
  subst c
  obtain ⟨a, dx, fs, rfl, q, rk⟩ := r.inst
  rcases rk.lookup f with ⟨v, d, z1, z2, rv⟩ | ⟨z1, z2⟩
  · rw [z2] at h3
    exact ⟨a, cl m, dx, fs, v, rfl, e1.s _ _ q, hC, hn, z1, Post.here e1.s h3 rv⟩
  · rw [z2] at h3; exact h3.elim
end

/-! ### targets that may change objects -/
structure DGX (X : Cx) (cl : Nat → Addr) (tg : Expr) (f : D → Env → Option Env) : Prop where
  ex : ∃ g : TG, PG X tg g ∧ ∀ (G H : Hp) (σ : Sl) (ρ : Env) (v : V) (d : D) (Q : Sl → Hp → Prop), Sr X.K cl G H σ ρ → R X.K cl G v d →
    (∃ ρ', f d ρ = some ρ' ∧ ∀ σ' H', Stp G H σ ρ G H' σ' ρ' → Sr X.K cl G H' σ' ρ' → Q σ' H') → g v σ H Q
structure DGXs (X : Cx) (cl : Nat → Addr) (tgs : List Expr) (f : List D → Env → Option Env) : Prop where
  ex : ∃ g : TGs, PGs X tgs g ∧ ∀ (G H : Hp) (σ : Sl) (ρ : Env) (vs : List V) (ds : List D) (Q : Sl → Hp → Prop), Sr X.K cl G H σ ρ → RL X.K cl G vs ds →
    (∃ ρ', f ds ρ = some ρ' ∧ ∀ σ' H', Stp G H σ ρ G H' σ' ρ' → Sr X.K cl G H' σ' ρ' → Q σ' H') → g vs σ H Q
/-- e.f = .. as a target -/
def gFld (K : PySem.W.Frag) (to : TE) (f : Str) : TG := fun v σ H Q => to σ H fun x H1 => ∃ a C dx fs, x = .ref a ∧ H1 a = some (.ins C dx fs) ∧ Cls K C ∧ NoAttr K C f ∧ fs.length < 1000 ∧ Q σ (upd H1 a (.ins C dx (L2.putF f v fs)))
section
variable {X : Cx} {cl : Nat → Addr} {W : WX} {fr : Bool} {tg e e2 o : Expr} {tgs : List Expr} {pos p2 apos : Pos} {y : Str} {f : D → Env → Option Env} {g : List D → Env → Option Env} {m : Env → Res D} {m2 : PEnv → Out D} {to : TE}
theorem pg_fld {x : Str} (ho : PE X o to) (ha : ∀ v, assign (.Attribute o x pos) X.env v = (do
      let ov ← holding [v] (eval o X.env)
      standAt pos.atName
      holding [v, ov] (setAttr ov x v)
      release [v, ov] []) := by intro _; rfl) : PG X (.Attribute o x pos) (gFld X.K to x) := by
  refine ⟨fun pins s σ H v u Q I r h => ?_⟩
  rw [ha]
  refine wpAny_bind (wpAny_holding (thn (ho.run pins s σ H _ I h) fun ov s1 ⟨x, H1, I1, r1, a, C, dx, fs, ex, ea, c, n, l, q⟩ => ?_))
  subst ex
  obtain rfl : ov = Value.ref a := r1
  exact wpAny_bind (wpAny_standAt (wpAny_bind (wpAny_holding (setattr_ok I1 ea c n l r fun s' I' => wpAny_release ⟨σ, _, I', q⟩))))
theorem dgx_name (i : Nat) {x : Str} (hN : X.N.Nodup) (hi : X.N[i]? = some x := by rfl) (hx : Loc X.env.scope x := by first | exact Or.inl rfl | exact Or.inr rfl) (hf : X.fn x = true ∨ X.env.scope.names.lookup x = some .local := by first | exact .inl rfl | exact .inr rfl) :
    DGX X cl (.Name x pos) (fun d ρ => setC ρ i (.sh d)) :=
  ⟨_, pg_name hN hi hx hf, fun G H σ ρ v d Q S r ⟨ρ', q, h⟩ => let ⟨s2, S2⟩ := setSh_ok .refl S r q; h _ H s2 S2⟩
def setX (i : Nat) (m2 : PEnv → Out D) (d : D) (ρ : Env) : Option Env := match m2 (viewA ρ), getO ρ i with
  | .ok (.int z), some (.lst ds) => (ixN ds.length z).bind fun n => some (mutC ρ i (.lst (ds.set n d)))
  | _, _ => none
/-- x[e] = .. as a target, x a slot's own list -/
theorem dgx_ix (i : Nat) (hj : DP X cl W0 e2 m2) (hN : X.N[i]? = some y := by rfl) (hv : Vis X.env.scope y := by first | exact Or.inl rfl | exact Or.inr (Or.inl rfl) | exact Or.inr (Or.inr rfl)) (hd : (y == ("__debug__" : Str)) = false := by decide) (hcd : (y == ("__classdict__" : Str)) = false := by decide)
    (ha : ∀ v, assign (.Subscript (.Name y p2) e2 apos) X.env v = (do
      let ov ← holding [v] (eval (.Name y p2) X.env)
      let iv ← holding [v, ov] (eval e2 X.env)
      standAt apos
      holding [v, ov, iv] (setItem ov iv v)
      release [v, ov, iv] []) := by intro _; rfl) : DGX X cl (.Subscript (.Name y p2) e2 apos) (setX i m2) := by
  obtain ⟨u, pj, kj⟩ := hj.ex
  refine ⟨_, pg_sub (pe_var hN hv hd hcd) pj set_list ha, fun G H σ ρ v d Q S r ⟨ρ', q, h⟩ => ?_⟩
  unfold setX at q
  split at q
  · rename_i z ds q1 q2
    obtain ⟨nn, hz, e⟩ := Option.bind_eq_some_iff.mp q
    cases e
    obtain ⟨a, xs, e, n, hl, rl⟩ := getO_list S q2
    refine ⟨.ref a, e, kj H H σ (viewA ρ) _ (.refl _) S.viewA ?_⟩
    rw [q1]
    intro w G1 H1 x rw'
    cases rw'
    obtain ⟨st, S'⟩ := S.grow x.h
    obtain ⟨st2, S2⟩ := list_upd S' q2 e (RL.set r nn rl)
    exact ⟨a, xs, _, nn, rfl, rfl, x.h _ _ hl, by rw [rl.length]; exact hz, h σ _ (st.trans S' st2) S2⟩
  · cases q
def setF (i n : Nat) (x : Str) (d : D) (ρ : Env) : Option Env := match getO ρ i with
  | some (.ins k fs) => if k = n ∧ fs.length < 1000 then some (mutC ρ i (.ins k (putFD x d fs))) else none
  | _ => none
/-- x.f = .. as a target, x a slot's own object -/
theorem dgx_fld (i n : Nat) {x : Str} (hC : Cls X.K (cl n)) (hn : NoAttr X.K (cl n) x) (hN : X.N[i]? = some y := by rfl) (hv : Vis X.env.scope y := by first | exact Or.inl rfl | exact Or.inr (Or.inl rfl) | exact Or.inr (Or.inr rfl)) (hd : (y == ("__debug__" : Str)) = false := by decide) (hcd : (y == ("__classdict__" : Str)) = false := by decide)
    (ha : ∀ v, assign (.Attribute (.Name y p2) x apos) X.env v = (do
      let ov ← holding [v] (eval (.Name y p2) X.env)
      standAt apos.atName
      holding [v, ov] (setAttr ov x v)
      release [v, ov] []) := by intro _; rfl) : DGX X cl (.Attribute (.Name y p2) x apos) (setF i n x) := by
  refine ⟨_, pg_fld (pe_var hN hv hd hcd) ha, fun G H σ ρ v d Q S r ⟨ρ', q, h⟩ => ?_⟩
  unfold setF at q
  split at q
  · rename_i k fs q2
    split at q
    · rename_i hk
      obtain ⟨rfl, hl⟩ := hk
      cases q
      obtain ⟨a, e, n, t⟩ := S.own i _ (getO_at q2)
      cases t with
      | ins h1 h2 h3 =>
        rename_i dx gs
        have rk : RK X.K cl G gs fs := .of h2 h3
        have rk2 := rk.putF (f := x) r
        obtain ⟨st, S2⟩ := mut_ok (H' := upd H a (.ins (cl k) dx (L2.putF x v gs))) S q2 e (fun b o hb q => by rw [upd_ne hb]; exact q) (.ins upd_same rk2.keys rk2.vals)
        exact ⟨.ref a, e, a, cl k, dx, gs, rfl, h1, hC, hn, by rw [rk.length]; exact hl, h σ _ st S2⟩
    · cases q
  · cases q
theorem dgxs_nil : DGXs X cl [] (fun ds ρ => match ds with | [] => some ρ | _ => none) :=
  ⟨_, pgs_nil, fun G H σ ρ vs ds Q S r ⟨ρ', q, h⟩ => by
    cases r with
    | nil => cases q; exact ⟨rfl, h σ H .refl S⟩
    | cons _ _ => cases q⟩
theorem dgxs_cons (h1 : DGX X cl tg f) (h2 : DGXs X cl tgs g) (hs : (assignEach (tg :: tgs) X.env).map (·.2) = assign tg X.env :: (assignEach tgs X.env).map (·.2) := by rfl) :
    DGXs X cl (tg :: tgs) (fun ds ρ => match ds with | d :: ds => (f d ρ).bind fun ρ => g ds ρ | [] => none) := by
  obtain ⟨t, p, k⟩ := h1.ex
  obtain ⟨u, p2, k2⟩ := h2.ex
  refine ⟨_, pgs_cons p p2 hs, fun G H σ ρ vs ds Q S r ⟨ρ', q, h⟩ => ?_⟩
  cases r with
  | nil => cases q
  | @cons v vs d ds r1 r2 =>
    have q' : (f d ρ).bind (fun ρ => g ds ρ) = some ρ' := q
    obtain ⟨ρ1, q1, q2⟩ := Option.bind_eq_some_iff.mp q'
    exact ⟨v, vs, rfl, k G H σ ρ v d _ S r1 ⟨ρ1, q1, fun σ1 H1 s1 S1 => k2 G H1 σ1 ρ1 vs ds Q S1 r2 ⟨ρ', q2, fun σ2 H2 s2 S2 => h σ2 H2 (s1.trans S1 s2) S2⟩⟩⟩
theorem dgx_tup {es : List Expr} {k : Nat} {n : Nat} (hc : X.calm = true) (h : DGXs X cl es g) (hn : (assignEach es X.env).length = n := by rfl) (hst : (assignEach es X.env).findIdx? (·.1) = none := by rfl) :
    DGX X cl (.Tuple es k pos) (fun d ρ => match d with | .tup ds => if ds.length = n then g ds ρ else none | _ => none) := by
  obtain ⟨t, p, kk⟩ := h.ex
  refine ⟨_, pg_tup hc p hn hst, fun G H σ ρ v d Q S r ⟨ρ', q, h⟩ => ?_⟩
  cases d <;> try cases q
  rename_i ds _
  obtain ⟨a, xs, rfl, h1, r1, _⟩ := r.toTup
  have q' : (if ds.length = n then g ds ρ else none) = some ρ' := q
  split at q'
  · rename_i hl
    exact ⟨a, xs, rfl, S.s.sqT h1, by rw [r1.length]; exact hl, kk G H σ ρ xs ds Q S r1 ⟨ρ', q', h⟩⟩
  · cases q'
theorem ds_asgX (hg : DGX X cl tg f) (he : DE X cl W e m) (hs : swapsWithSole [tg] e pos.line X.env = pure false := by rfl) (hw : swappedStores [tg] e X.env = pure none := by rfl)
    (h1 : (assignEach [tg] X.env).map (·.2) = [assign tg X.env] := by rfl) : DS X cl W fr (.Assign [tg] e pos) (fun ρ => (m ρ).fin fun d ρ => orStuck (f d ρ) .nx) := by
  obtain ⟨t, p, k⟩ := he.ex
  obtain ⟨u, p2, k2⟩ := hg.ex
  refine ⟨_, ps_asg p p2 hs hw h1, fun G H σ ρ D S h => k G H σ ρ _ S (h.val fun d v ρ' G' H' b S' r h' => ?_)⟩
  obtain ⟨ρ2, q, h2⟩ := PostS.orS h'
  exact k2 G' H' σ ρ' v d _ S' r ⟨ρ2, q, fun σ' H2 s2 S2 => h2 σ' G' H2 (b.trans S' s2) S2⟩
end

/-! ### dicts changed -/
section
variable {X : Cx} {cl : Nat → Addr} {W : WX} {fr : Bool} {k : Nat} {e e2 : Expr} {pos p2 apos : Pos} {y : Str} {m m2 : Env → Res D}
def isDK : Option D → Bool
  | some (.dK _) => true
  | _ => false
theorem isDK_some {o : Option D} (h : isDK o = true) : ∃ ds, o = some (.dK ds) := by
  cases o with
  | none => cases h
  | some d =>
    cases d <;> try cases h
    exact ⟨_, rfl⟩
theorem getO_dict {K : PySem.W.Frag} {G H : Hp} {σ : Sl} {ρ : Env} {i : Nat} {ds : List (Key × D)} (S : Sr K cl G H σ ρ) (h : getO ρ i = some (.dK ds)) : ∃ a ks, σ[i]? = some (some (.ref a)) ∧ G a = none ∧ H a = some (.dK ks) ∧ RK K cl G ks ds := by
  obtain ⟨a, e, n, t⟩ := S.own i _ (getO_at h)
  cases t with
  | dK h1 h2 h3 => exact ⟨a, _, e, n, h1, .of h2 h3⟩
theorem dict_upd {K : PySem.W.Frag} {G H : Hp} {σ : Sl} {ρ : Env} {i : Nat} {ds ds' : List (Key × D)} {a : Addr} {ks' : List (Key × V)} (S : Sr K cl G H σ ρ) (h : getO ρ i = some (.dK ds)) (e : σ[i]? = some (some (.ref a))) (r : RK K cl G ks' ds') :
    Stp G H σ ρ G (upd H a (.dK ks')) σ (mutC ρ i (.dK ds')) ∧ Sr K cl G (upd H a (.dK ks')) σ (mutC ρ i (.dK ds')) :=
  mut_ok S h e (fun b o hb q => by rw [upd_ne hb]; exact q) (.dK upd_same r.keys r.vals)
def delM (i : Nat) (j : D) (ρ : Env) : SRes := match getO ρ i, keyD j with
  | some (.dK ds), some k => if (valD ds k).isSome = true then .nx (mutC ρ i (.dK (dropD ds k))) else .stuck
  | _, _ => .stuck
/-- del x[e], x a slot's own dict -/
theorem ds_ddel (i : Nat) (he : DE X cl W e m) (hN : X.N[i]? = some y := by rfl) (hv : Vis X.env.scope y := by first | exact Or.inl rfl | exact Or.inr (Or.inl rfl) | exact Or.inr (Or.inr rfl)) (hd : (y == ("__debug__" : Str)) = false := by decide) (hcd : (y == ("__classdict__" : Str)) = false := by decide) :
    DS X cl W fr (.Delete [.Subscript (.Name y p2) e apos] pos) (fun ρ => if isDK (getO ρ i) = true then (m ρ).fin fun j ρ => delM i j ρ else .stuck) := by
  obtain ⟨u, pj, kj⟩ := he.ex
  refine ⟨_, ps_ddel (pe_var hN hv hd hcd) pj, fun G H σ ρ D S h => ?_⟩
  split at h
  · rename_i hi
    obtain ⟨ds, q⟩ := isDK_some hi
    obtain ⟨a, ks, e, n, hl, rl⟩ := getO_dict S q
    refine ⟨.ref a, e, kj G H σ ρ _ S (PostS.val h fun dj vj ρ2 G2 H2 s2 S2 rj h2 => ?_)⟩
    unfold delM at h2
    split at h2
    · rename_i ds' k q' hk
      obtain ⟨a', ks', e', n', hl', rl'⟩ := getO_dict S2 q'
      rw [e] at e'
      cases e'
      split at h2
      · rename_i hh
        obtain ⟨st, S3⟩ := dict_upd S2 q' e (rl'.drop k)
        exact ⟨a, ks', k, rfl, hl', rj.key hk, by rw [rl'.has k]; exact hh, h2 σ G2 _ (s2.trans S2 st) S3⟩
      · exact h2.elim
    · exact h2.elim
  · exact h.elim
def putM (i : Nat) (d : D) (j : D) (ρ : Env) : SRes := match getO ρ i, keyD j with
  | some (.dK ds), some k => if ds.length < sizeLine then .nx (mutC ρ i (.dK (putD ds k d))) else .stuck
  | _, _ => .stuck
/-- x[e2] = e, x a slot's own dict -/
theorem ds_dput (hr : Room k X.A) (i : Nat) (he : DE X cl W e m) (hj : DE X cl W e2 m2) (hN : X.N[i]? = some y := by rfl) (hv : Vis X.env.scope y := by first | exact Or.inl rfl | exact Or.inr (Or.inl rfl) | exact Or.inr (Or.inr rfl)) (hd : (y == ("__debug__" : Str)) = false := by decide) (hcd : (y == ("__classdict__" : Str)) = false := by decide)
    (hs : swapsWith e (some (.Subscript (.Name y p2) e2 apos)) pos.line X.env = pure false := by rfl) :
    DS X cl W fr (.Assign [.Subscript (.Name y p2) e2 apos] e pos) (fun ρ => (m ρ).fin fun d ρ => if isDK (getO ρ i) = true then (m2 ρ).fin fun j ρ => putM i d j ρ else .stuck) := by
  obtain ⟨t, pe, ke⟩ := he.ex
  obtain ⟨u, pj, kj⟩ := hj.ex
  refine ⟨_, ps_dput (by have := hr.un; omega) (pe_var hN hv hd hcd) pj pe hs, fun G H σ ρ D S h => ke G H σ ρ _ S (PostS.val h fun d v ρ1 G1 H1 s1 S1 r h1 => ?_)⟩
  split at h1
  · rename_i hi
    obtain ⟨ds, q⟩ := isDK_some hi
    obtain ⟨a, ks, e, n, hl, rl⟩ := getO_dict S1 q
    refine ⟨.ref a, e, kj G1 H1 σ ρ1 _ S1 (PostS.val (PostS.on s1 S1 h1) fun dj vj ρ2 G2 H2 s2 S2 rj h2 => ?_)⟩
    unfold putM at h2
    split at h2
    · rename_i ds' k q' hk
      obtain ⟨a', ks', e', n', hl', rl'⟩ := getO_dict S2 q'
      rw [e] at e'
      cases e'
      split at h2
      · rename_i hh
        obtain ⟨st, S3⟩ := dict_upd S2 q' e (rl'.put (k := k) (r.mono s2.g))
        exact ⟨a, _, rfl, .inl ⟨ks', k, hl', rj.key hk, by rw [rl'.length]; exact hh, rfl⟩, h2 σ G2 _ (s2.trans S2 st) S3⟩
      · exact h2.elim
    · exact h2.elim
  · exact h1.elim
end
end Vx
end
section
set_option maxRecDepth 100000
set_option maxHeartbeats 1000000
/-! Vx14: methods, new objects of one's own classes, their `in` and `==`; keywords. -/
namespace Vx
open PySem PySem.Spec PyProof.Rows L2
open Out (guard)

/-- a method, as its callers know it -/
structure CalleeM (P : Program) (w : World) (K : PySem.W.Frag) (mg : Str → Option Value) (base : Heap) (C : Addr) (x : Str) (k : Nat) (sp : Sp) : Prop where
  ex : ∃ (f : Addr) (fd : FuncData) (ps : List Str), FnG P w K mg base k f fd ps sp ∧ Meth K C x f ∧ Binds K fd ps []
/-- a class, as its callers know it: n parameters (self among them), the last ones filled by dvs -/
structure CalleeC (P : Program) (w : World) (K : PySem.W.Frag) (mg : Str → Option Value) (base : Heap) (cl : Nat → Addr) (C : Addr) (x : Str) (k : Nat) (dvs : List V) (sp : Sp) : Prop where
  ex : ∃ (f : Addr) (fd : FuncData) (ps : List Str) (ds : List Value), FnG P w K mg base k f fd ps sp ∧ Mk K C f ∧ mg x = some (.ref C) ∧ Binds K fd ps ds ∧ Vals dvs ds
/-- what isinstance asks of a class of one's own -/
def insB (K : PySem.W.Frag) (C : Addr) : Bool := decide (PySem.W.findIn K (.ref C) "__class__" = some (some (.builtin "object.__class__"))) && (decide (PySem.W.specialIn K (.builtin "object.__class__") "__get__" = some (some (.builtin "getset_descriptor.__get__"))) &&
  (decide (PySem.W.takesIn K (.builtin "object.__class__") = some true) && decide (PySem.W.mroIn K C (.type "object") = some true)))
theorem tyOf_own {K : PySem.W.Frag} {H : Hp} {a C dx : Addr} {fs : List (Str × V)} (h : insB K C = true) (c : Cls K C) (e : H a = some (.ins C dx fs)) : TyOf K H (.ref a) (.ref C) := by
  unfold insB at h
  simp only [Bool.and_eq_true, decide_eq_true_eq] at h
  exact .ins e c h.1 h.2.1 h.2.2.1 h.2.2.2
def methD (n : Nat) (m : Str) (N : Nat) (F : List D → Out D) (d : D) (ds : List D) : Out D := match d with
  | .ins k fs => guard (decide (k = n ∧ (fs.lookup m).isNone = true ∧ ds.length + 1 = N)) (F (d :: ds))
  | _ => .stuck
section
variable {X : Cx} {cl : Nat → Addr} {W : WX} {k : Nat} {o a b e : Expr} {es : List Expr} {mo ma mb : PEnv → Out D} {ml : PEnv → Out (List D)} {x m : Str} {pos p p2 apos : Pos}
def tMethG (C : Addr) (m : Str) (sp : Sp) (W : WX) (to : TE) (t : TA) : TE := fun σ H Q => to σ H fun x H1 => ∃ a dx fs, x = .ref a ∧ H1 a = some (.ins C dx fs) ∧ fs.lookup m = none ∧ t σ H1 fun vs H2 => sp (x :: vs) H2 Q (WE W σ)
theorem pe_methG {C f : Addr} {fd : FuncData} {ps : List Str} {sp : Sp} {to : TE} {t : TA} {pl : Sem Bool} (he : PE X o to) (c : Cls X.K C) (hm : Meth X.K C m f) (F : FnG X.prog X.w X.K X.mg X.base k f fd ps sp) (hr : Room k X.A) (hgd : X.A.guards = some []) (hb : Binds X.K fd ps []) (tk : Takes X W) (ha : PA X (e :: es) t)
    (hst : starEach (e :: es) X.env = (false, eval e X.env) :: starEach es X.env) (hpl : (backTo pos (starEach es X.env)).any (·.1) = false)
    (ht : eval (.Call (.Attribute o m apos) (e :: es) [] pos) X.env = (do
      let ov ← eval o X.env
      standAt apos.atName
      let (f, first) ← holding [ov] (getMethod ov m pl)
      callWith pos f first (backTo pos (starEach (e :: es) X.env)) (backToKw pos (keywordEach [] X.env)))) :
    PE X (.Call (.Attribute o m apos) (e :: es) [] pos) (tMethG C m sp W to t) := by
  refine ⟨fun pins s σ H Q I h => ?_⟩
  refine PySem.W.methodCall_KW (pl := pl) (thn (he.run pins s σ H _ I h) fun u s1 ⟨x, H1, I1, rx, a, dx, fs, ex, ea, l, q⟩ => ?_) ht
  subst ex
  obtain rfl : u = Value.ref a := rx
  refine getmeth_ok I1 ea c hm l ?_
  refine PySem.W.callWith_K (first := [.ref a]) (h₀ := X.base) I.ok.mod.kin hm.kp (thn (ha.run pos pins s1 σ H1 _ I1 q) fun us s2 ⟨vs, H2, I2, r, q2⟩ => ⟨I2.kIn, ?_⟩) hst hpl
  exact run_fnG (us := .ref a :: us) (vs := .ref a :: vs) (dvs := []) F hr hgd hb .nil tk I2 (.cons rfl r) (by rw [List.append_nil]; exact q2)
theorem pe_methG0 {C f : Addr} {fd : FuncData} {ps : List Str} {sp : Sp} {to : TE} {pl : Sem Bool} (he : PE X o to) (c : Cls X.K C) (hm : Meth X.K C m f) (F : FnG X.prog X.w X.K X.mg X.base k f fd ps sp) (hr : Room k X.A) (hgd : X.A.guards = some []) (hb : Binds X.K fd ps []) (tk : Takes X W)
    (ht : eval (.Call (.Attribute o m apos) [] [] pos) X.env = (do
      let ov ← eval o X.env
      standAt apos.atName
      let (f, first) ← holding [ov] (getMethod ov m pl)
      callWith pos f first (backTo pos (starEach [] X.env)) (backToKw pos (keywordEach [] X.env)))) :
    PE X (.Call (.Attribute o m apos) [] [] pos) (tMethG C m sp W to tNil) := by
  refine ⟨fun pins s σ H Q I h => ?_⟩
  refine PySem.W.methodCall_KW (pl := pl) (thn (he.run pins s σ H _ I h) fun u s1 ⟨x, H1, I1, rx, a, dx, fs, ex, ea, l, q⟩ => ?_) ht
  subst ex
  obtain rfl : u = Value.ref a := rx
  refine getmeth_ok I1 ea c hm l ?_
  exact PySem.W.callWith_K0 (first := [.ref a]) I1.kIn hm.kp (run_fnG (us := [.ref a]) (vs := [.ref a]) (dvs := []) F hr hgd hb .nil tk I1 (.cons rfl .nil) (by rw [List.append_nil]; exact q))
theorem lookup_none {K : PySem.W.Frag} {G : Hp} {fs : List (Str × V)} {ds : List (Str × D)} {m : Str} (rk : RK K cl G fs ds) (h : (ds.lookup m).isNone = true) : fs.lookup m = none := by
  rcases rk.lookup m with ⟨v, d, z1, z2, _⟩ | ⟨z1, _⟩
  · rw [z2] at h; cases h
  · exact z1
/-- o.m(), nothing changed -/
theorem dp_meth0 (n : Nat) {N : Nat} {fr : Bool} {F : List D → Out D} {pl : Sem Bool} (C : CalleeM X.prog X.w X.K X.mg X.base (cl n) m k (spP X.K cl N fr F)) (hC : Cls X.K (cl n)) (hr : Room k X.A) (hgd : X.A.guards = some []) (tk : Takes X W) (ho : DP X cl W o mo)
    (ht : eval (.Call (.Attribute o m apos) [] [] pos) X.env = (do
      let ov ← eval o X.env
      standAt apos.atName
      let (f, first) ← holding [ov] (getMethod ov m pl)
      callWith pos f first (backTo pos (starEach [] X.env)) (backToKw pos (keywordEach [] X.env))) := by rfl) :
    DP X cl W (.Call (.Attribute o m apos) [] [] pos) (fun ρ => (mo ρ).bind fun d => methD n m N F d []) := by
  obtain ⟨f, fd, ps, FG, hm, hb⟩ := C.ex
  obtain ⟨t, p, k⟩ := ho.ex
  refine ⟨_, pe_methG0 p hC hm FG hr hgd hb tk ht, fun G H σ ρ Q s rs h => k G H σ ρ _ s rs (h.bind fun d v G1 H1 e1 r h1 => ?_)⟩
  unfold methD at h1
  cases d <;> try exact h1.elim
  rename_i j ds
  obtain ⟨c, h3⟩ := guard_ok h1
  obtain ⟨rfl, c2, c3⟩ := c
  obtain ⟨a, dx, fs, rfl, q, rk⟩ := r.inst
  exact ⟨a, dx, fs, rfl, e1.s _ _ q, lookup_none rk c2, by simpa using c3, G1, [.ins j ds], e1.s, .cons r .nil, PostC.post (n := N) h3⟩
theorem dn_meth0 (n : Nat) {N : Nat} {F : List D → Out D} {pl : Sem Bool} (C : CalleeM X.prog X.w X.K X.mg X.base (cl n) m k (spP X.K cl N true F)) (hC : Cls X.K (cl n)) (hr : Room k X.A) (hgd : X.A.guards = some []) (tk : Takes X W) (ho : DP X cl W o mo)
    (ht : eval (.Call (.Attribute o m apos) [] [] pos) X.env = (do
      let ov ← eval o X.env
      standAt apos.atName
      let (f, first) ← holding [ov] (getMethod ov m pl)
      callWith pos f first (backTo pos (starEach [] X.env)) (backToKw pos (keywordEach [] X.env))) := by rfl) :
    DN X cl W (.Call (.Attribute o m apos) [] [] pos) (fun ρ => (mo ρ).bind fun d => methD n m N F d []) := by
  obtain ⟨f, fd, ps, FG, hm, hb⟩ := C.ex
  obtain ⟨t, p, k⟩ := ho.ex
  refine ⟨_, pe_methG0 p hC hm FG hr hgd hb tk ht, fun G H σ ρ Q s rs h => k G H σ ρ _ s rs (PostN.bind h fun d v G1 H1 e1 r h1 => ?_)⟩
  unfold methD at h1
  cases d <;> try exact h1.elim
  rename_i j ds
  obtain ⟨c, h3⟩ := PostN.guard h1
  obtain ⟨rfl, c2, c3⟩ := c
  obtain ⟨a, dx, fs, rfl, q, rk⟩ := r.inst
  exact ⟨a, dx, fs, rfl, e1.s _ _ q, lookup_none rk c2, by simpa using c3, G1, [.ins j ds], e1.s, .cons r .nil, PostC.postN (n := N) h3⟩
def insG (n : Nat) (m : Str) (d : D) (o : Out D) : Out D := match d with
  | .ins j fs => guard (decide (j = n ∧ (fs.lookup m).isNone = true)) o
  | _ => .stuck
/-- o.m(e, ..), nothing changed -/
theorem dp_meth (n : Nat) {N : Nat} {fr : Bool} {F : List D → Out D} {pl : Sem Bool} (C : CalleeM X.prog X.w X.K X.mg X.base (cl n) m k (spP X.K cl N fr F)) (hC : Cls X.K (cl n)) (hr : Room k X.A) (hgd : X.A.guards = some []) (tk : Takes X W) (ho : DP X cl W o mo) (ha : DA X cl W (e :: es) ml)
    (hst : starEach (e :: es) X.env = (false, eval e X.env) :: starEach es X.env := by rfl) (hpl : (backTo pos (starEach es X.env)).any (·.1) = false := by rfl)
    (ht : eval (.Call (.Attribute o m apos) (e :: es) [] pos) X.env = (do
      let ov ← eval o X.env
      standAt apos.atName
      let (f, first) ← holding [ov] (getMethod ov m pl)
      callWith pos f first (backTo pos (starEach (e :: es) X.env)) (backToKw pos (keywordEach [] X.env))) := by rfl) :
    DP X cl W (.Call (.Attribute o m apos) (e :: es) [] pos) (fun ρ => (mo ρ).bind fun d => insG n m d ((ml ρ).bind fun ds => guard (decide (ds.length + 1 = N)) (F (d :: ds)))) := by
  obtain ⟨f, fd, ps, FG, hm, hb⟩ := C.ex
  obtain ⟨t, p, k⟩ := ho.ex
  obtain ⟨u, p2, k2⟩ := ha.ex
  refine ⟨_, pe_methG p hC hm FG hr hgd hb tk p2 hst hpl ht, fun G H σ ρ Q s rs h => k G H σ ρ _ s rs (h.bind fun d v G1 H1 e1 r h1 => ?_)⟩
  cases d <;> try exact h1.elim
  rename_i j ds
  obtain ⟨c, h3⟩ := guard_ok (show Post X.K cl W σ G1 H1 (guard (decide (j = n ∧ (ds.lookup m).isNone = true)) _) Q from h1)
  obtain ⟨rfl, c2⟩ := c
  obtain ⟨a, dx, fs, rfl, q, rk⟩ := r.inst
  refine ⟨a, dx, fs, rfl, e1.s _ _ q, lookup_none rk c2, k2 G1 H1 σ ρ _ e1.s (rs.mono e1.g) (PostL.bind h3 fun es vs G2 H2 e2 r2 h4 => ?_)⟩
  obtain ⟨c3, h5⟩ := guard_ok h4
  exact ⟨by rw [List.length_cons, r2.length]; exact c3, G2, .ins j ds :: es, e2.s, .cons (r.mono e2.g) r2, PostC.post (n := N) h5⟩
/-- isinstance(o, C) of an object of C itself -/
def isoD (n : Nat) (d : D) : Out D := match d with
  | .ins j _ => guard (decide (j = n)) (.ok (.bl true))
  | _ => .stuck
theorem dp_isOwn (n : Nat) {u : Str} (hI : insB X.K (cl n) = true) (hcl : Cls X.K (cl n)) (hm : X.mg "isinstance" = none) (hC : X.mg u = some (.ref (cl n))) (ha : DP X cl W a ma) (hg : Gl X "isinstance" := by rfl) (hgT : Gl X u := by rfl) (hdx : (u == ("__debug__" : Str)) = false := by decide)
    (he : starEach (a :: [.Name u p2]) X.env = (false, eval a X.env) :: starEach [.Name u p2] X.env := by rfl) (he2 : starEach [.Name u p2] X.env = (false, eval (.Name u p2) X.env) :: starEach [] X.env := by rfl) (hpl : (backTo pos (starEach [.Name u p2] X.env)).any (·.1) = false := by rfl) :
    DP X cl W (.Call (.Name "isinstance" p) [a, .Name u p2] [] pos) (fun ρ => (ma ρ).bind (isoD n)) := by
  obtain ⟨t, pa, k⟩ := ha.ex
  refine ⟨_, pe_callB call_isi hg hm PyProof.Rows.boot_isinstance (pa_cons pa (pa_cons (pe_glob (v := .ref (cl n)) hgT hC rfl hdx) pa_nil he2) he) (by decide) (by decide) he hpl, fun G H σ ρ Q s rs h => k G H σ ρ _ s rs (h.bind fun d v G1 H1 e r h1 => ?_)⟩
  cases d <;> try exact h1.elim
  rename_i j ds
  obtain ⟨c, h3⟩ := guard_ok (show Post X.K cl W σ G1 H1 (guard (decide (j = n)) (.ok (.bl true))) Q from h1)
  subst c
  obtain ⟨a, dx, fs, rfl, q, rk⟩ := r.inst
  exact ⟨.ref a, .ref (cl j), .ref (cl j), .ref (cl j), true, rfl, .own _, .base (tyOf_own hI hcl (e.s _ _ q)), by unfold PySem.W.kitOne; rw [if_pos (by simp)], h3.here e.s (.bl _)⟩

/-! ### a new object -/
theorem run_makeG {C f : Addr} {fd : FuncData} {ps : List Str} {sp : Sp} {ds : List Value} {dvs : List V} {pins : List (Addr × Obj)} {σ : Sl} {H : Hp} {s : Shared} {Q : VK} {us : List Value} {vs : List V} (M : Mk X.K C f) (F : FnG X.prog X.w X.K X.mg X.base k f fd ps sp) (hr : Room (k + 1) X.A) (hgd : X.A.guards = some []) (hb : Binds X.K fd ps ds) (hd : Vals dvs ds)
    (tk : Takes X W) (I : Inv X pins σ H s) (r : Vals vs us)
    (h : ∀ x dx, H x = none → H dx = none → dx ≠ x → sp (.ref x :: (vs ++ dvs)) (upd (upd H dx (.own x)) x (.ins C dx [])) (fun v H2 => v = .non ∧ Q (.ref x) H2) (fun _ _ _ => False)) :
    wpAny (model X.prog X.w) X.A (call (.ref C) us) (EP X pins σ Q) X.xe s := by
  have hq := h (s.heap.objs.size + 1) s.heap.objs.size (I.hok.fresh (Nat.le_succ _)) (I.hok.fresh (Nat.le_refl _)) (Nat.ne_of_lt (Nat.lt_succ_self _))
  have I2 := Inv.made (C := C) I
  have r2 : Vals (V.ref (s.heap.objs.size + 1) :: (vs ++ dvs)) (Value.ref (s.heap.objs.size + 1) :: (us ++ ds)) := .cons rfl (r.append hd)
  have hl : (Value.ref (s.heap.objs.size + 1) :: us ++ ds).length = ps.length := r2.length.symm.trans (F.len _ _ _ _ hq)
  refine wpAny_call (make_map (f := f) I.kIn M.makes M.init (beq_iff_eq.mp M.fn) (codeAny_mono (F.run _ X.stack _ _ ⟨Value.ref (s.heap.objs.size + 1) :: us, []⟩ _ _ _ _ (hr.make C us []) hgd
    (I2.env0.make C us []) (hb _ (Value.ref (s.heap.objs.size + 1) :: us) I2.kIn hl) r2 hq) fun r s' hq' => ?_))
  cases r with
  | error e => exact passAt (W := W0) (takes_0) σ pins _ _ e s' I2 hq'
  | ok fl =>
    cases fl with
    | ret u =>
      obtain ⟨v, H', I3, rv, ev, q3⟩ := I2.after hq'
      subst ev
      exact ⟨rv, ⟨V.ref (s.heap.objs.size + 1), H', I3, rfl, q3⟩⟩
    | next => exact hq'.elim
    | brk => exact hq'.elim
    | cont => exact hq'.elim
def tMakeG (C : Addr) (sp : Sp) (dvs : List V) (t : TA) : TE := fun σ H Q => t σ H fun vs H1 => ∀ x dx, H1 x = none → H1 dx = none → dx ≠ x → sp (.ref x :: (vs ++ dvs)) (upd (upd H1 dx (.own x)) x (.ins C dx [])) (fun v H2 => v = .non ∧ Q (.ref x) H2) (fun _ _ _ => False)
theorem pe_makeG {C f : Addr} {fd : FuncData} {ps : List Str} {sp : Sp} {ds : List Value} {dvs : List V} {t : TA} {u : Str} (M : Mk X.K C f) (F : FnG X.prog X.w X.K X.mg X.base k f fd ps sp) (hr : Room (k + 1) X.A) (hgd : X.A.guards = some []) (hg : Gl X u) (hm : X.mg u = some (.ref C)) (hb : Binds X.K fd ps ds) (hd : Vals dvs ds)
    (ha : PA X (e :: es) t) (hdb : (u == ("__debug__" : Str)) = false) (he : starEach (e :: es) X.env = (false, eval e X.env) :: starEach es X.env) (hpl : (backTo pos (starEach es X.env)).any (·.1) = false) :
    PE X (.Call (.Name u p) (e :: es) [] pos) (tMakeG C sp dvs t) :=
  ⟨fun pins s σ H Q I h => wpAny_Call_Name_kw (ld_glob I hg hm (PySem.W.callWith_K (h₀ := X.base) I.ok.mod.kin M.kp (thn (ha.run pos pins s σ H _ I h) fun us s1 ⟨vs, H1, I1, r, q⟩ => ⟨I1.kIn, run_makeG (W := W0) M F hr hgd hb hd takes_0 I1 r q⟩) he hpl) hdb)⟩
def makeD (n : Nat) (F : D → List D → Out (D × D)) (dfl ds : List D) : Out D := match F (.ins n []) (ds ++ dfl) with
  | .ok (.non, d) => .ok d
  | _ => .stuck
/-- what __init__ makes of a new object -/
theorem make_post {N : Nat} {F : D → List D → Out (D × D)} {n : Nat} {dfl ds : List D} {σ : Sl} {G H : Hp} {dvs vs : List V} {Q : VK} {x dx : Addr} (s : Same G H) (hx : H x = none) (hdx : H dx = none) (hne : dx ≠ x) (rv : RL X.K cl G vs ds) (rd : RL X.K cl G dvs dfl) (hN : ds.length + dfl.length + 1 = N)
    (h : PostN X.K cl W σ G H (makeD n F dfl ds) Q) : spM X.K cl N false F (.ref x :: (vs ++ dvs)) (upd (upd H dx (.own x)) x (.ins (cl n) dx [])) (fun v H2 => v = .non ∧ Q (.ref x) H2) (fun _ _ _ => False) := by
  refine ⟨by rw [List.length_cons, List.length_append, rv.length, rd.length]; exact hN, G, x, .ins n [], vs ++ dvs, ds ++ dfl, rfl, ?_, s.free hx, .ins upd_same rfl .nil, rv.append rd, ?_⟩
  · exact fun b o q => by
      rw [upd_ne (ne_of_none (s _ _ q) hx), upd_ne (ne_of_none (s _ _ q) hdx)]; exact s _ _ q
  · unfold makeD at h
    cases q : F (.ins n []) (ds ++ dfl) with
    | stuck => rw [q] at h; exact h
    | exc y => rw [q] at h; exact h.elim
    | ok r =>
      rw [q] at h
      obtain ⟨d, d0⟩ := r
      cases d <;> try exact h.elim
      intro G' H' g s' gf fr gn tp v rn
      refine ⟨rn.toNon, h x G' H' ⟨g, fun b o z => ?_, s', fun b z z' => ?_⟩ hx gn tp⟩
      · refine fr b o (ne_of_none z hx) ?_
        rw [upd_ne (ne_of_none z hx), upd_ne (ne_of_none z hdx)]; exact z
      · have z2 := gf b z z'
        by_cases hb : b = x
        · rw [hb]; exact hx
        · by_cases hb2 : b = dx
          · rw [hb2]; exact hdx
          · rw [upd_ne hb, upd_ne hb2] at z2; exact z2
theorem dn_make (n : Nat) {N : Nat} {F : D → List D → Out (D × D)} {dfl : List D} {dvs : List V} {u : Str} (C : CalleeC X.prog X.w X.K X.mg X.base cl (cl n) u k dvs (spM X.K cl N false F)) (hr : Room (k + 1) X.A) (hgd : X.A.guards = some []) (rd : ∀ G, RL X.K cl G dvs dfl) (ha : DA X cl W (e :: es) ml)
    (hg : Gl X u := by rfl) (hdb : (u == ("__debug__" : Str)) = false := by decide) (he : starEach (e :: es) X.env = (false, eval e X.env) :: starEach es X.env := by rfl) (hpl : (backTo pos (starEach es X.env)).any (·.1) = false := by rfl) :
    DN X cl W (.Call (.Name u p) (e :: es) [] pos) (fun ρ => (ml ρ).bind fun ds => guard (decide (ds.length + dfl.length + 1 = N)) (makeD n F dfl ds)) := by
  obtain ⟨f, fd, ps, vs0, FG, M, hm, hb, hd⟩ := C.ex
  obtain ⟨t, p, k⟩ := ha.ex
  refine ⟨_, pe_makeG M FG hr hgd hg hm hb hd p hdb he hpl, fun G H σ ρ Q s rs h => k G H σ ρ _ s rs (PostN.bindL h fun ds vs G1 H1 e1 r h1 => ?_)⟩
  obtain ⟨c, h2⟩ := PostN.guard h1
  exact fun x dx hx hdx hne => make_post e1.s hx hdx hne r (rd _) (by simpa using c) h2
end
end Vx
end
section
set_option maxRecDepth 100000
set_option maxHeartbeats 1000000
/-! Vx15: `in` and `==` of one's own classes; methods that change; keywords; dicts made by a comprehension or of pairs. -/
namespace Vx
open PySem PySem.Spec PyProof.Rows L2
open Out (guard)

section
variable {X : Cx} {cl : Nat → Addr} {W : WX} {k : Nat}
theorem inst_at {pins : List (Addr × Obj)} {s : Shared} {σ : Sl} {H : Hp} {a C dx : Addr} {fs : List (Str × V)} (I : Inv X pins σ H s) (ha : H a = some (.ins C dx fs)) : ∃ ox od, PySem.W.InstAt s.heap a ox C od := by
  obtain ⟨mA, J, _⟩ := ins_get I.hok ha
  obtain ⟨od, J, _⟩ := J.look
  exact ⟨_, _, J⟩
theorem contains_own {pins : List (Addr × Obj)} {s : Shared} {σ : Sl} {H : Hp} {a C dx f : Addr} {fs : List (Str × V)} {u : Value} {Q : Bool → Shared → Prop} (I : Inv X pins σ H s) (ha : H a = some (.ins C dx fs)) (hm : Meth X.K C "__contains__" f)
    (h : wpAny (model X.prog X.w) X.A (call (.ref f) [.ref a, u]) (fun r s' => wpAny (model X.prog X.w) X.A (truthy r) Q X.xe s') X.xe s) : wpAny (model X.prog X.w) X.A (contains (.ref a) u) Q X.xe s := by
  obtain ⟨ox, od, J⟩ := inst_at I ha
  have sp : ∀ {α : Type} {g : Option Value → Sem α} {R : α → Shared → Prop}, wpAny (model X.prog X.w) X.A (g (some (.ref f))) R X.xe s → wpAny (model X.prog X.w) X.A (specialOf (.ref a) "__contains__" >>= g) R X.xe s := fun hg =>
    wpAny_bind (wpAny_bind (J.type.here ((PySem.W.looks_findIn I.kIn hm.at_).here hg)))
  unfold contains
  refine wpAny_holding ?_
  rw [stdlibNamesSay?_ref]
  refine sp ?_
  show wpAny _ _ (if (some (Value.ref f) == some Value.none) = true then _ else _) _ _ _
  rw [if_neg (by simp)]
  unfold callSpecialUnlessNone?
  refine wpAny_bind (sp ?_)
  refine wpAny_holding (wpAny_bind ((PySem.W.bind_fn I.kIn _ (beq_iff_eq.mp hm.fn)).here ?_))
  show wpAny _ _ (if (Value.ref f == Value.none) = true then _ else _) _ _ _
  rw [if_neg (by simp)]
  exact wpAny_bind (wpAny_mono h (fun r s' hr => wpAny_pure hr) fun _ _ e => e)
def boolF (o : Out D) : Out D := match o with
  | .ok (.bl b) => .ok (.bl b)
  | _ => .stuck
def inOD (n : Nat) (F : List D → Out D) (d e : D) : Out D := match e with
  | .ins j fs => guard (decide (j = n)) (boolF (F [.ins j fs, d]))
  | _ => .stuck
def ninOD (n : Nat) (F : List D → Out D) (d e : D) : Out D := match e with
  | .ins j fs => guard (decide (j = n)) ((boolF (F [.ins j fs, d])).bind fun r => match r with | .bl b => .ok (.bl (!b)) | _ => .stuck)
  | _ => .stuck
def eqOD (n : Nat) (F : List D → Out D) (d e : D) : Out D := match d, e with
  | .ins j fs, .ins i gs => guard (decide (j = n ∧ i = n)) (boolF (F [.ins j fs, .ins i gs]))
  | _, _ => .stuck
def rInOwn (C : Addr) (sp : Sp) : R2 := fun x y H Q => ∃ a dx fs, y = .ref a ∧ H a = some (.ins C dx fs) ∧ sp [.ref a, x] H (fun v H' => ∃ b, v = .bl b ∧ Q (.bl b) H') (fun _ _ _ => False)
def rNinOwn (C : Addr) (sp : Sp) : R2 := fun x y H Q => ∃ a dx fs, y = .ref a ∧ H a = some (.ins C dx fs) ∧ sp [.ref a, x] H (fun v H' => ∃ b, v = .bl b ∧ Q (.bl (!b)) H') (fun _ _ _ => False)
def rEqOwn (C : Addr) (sp : Sp) : R2 := fun x y H Q => ∃ a b dx dy fs gs, x = .ref a ∧ y = .ref b ∧ H a = some (.ins C dx fs) ∧ H b = some (.ins C dy gs) ∧ sp [.ref a, .ref b] H (fun v H' => ∃ b, v = .bl b ∧ Q (.bl b) H') (fun _ _ _ => False)
theorem op_inOwn {C : Addr} {sp : Sp} (Cm : CalleeM X.prog X.w X.K X.mg X.base C "__contains__" k sp) (hr : Room k X.A) (hgd : X.A.guards = some []) : OpR X (compareOp .In) (rInOwn C sp) := by
  intro pins s σ H x y u v Q I rx ry h
  obtain ⟨a, dx, fs, rfl, ha, h⟩ := h
  cases ry
  obtain ⟨f, fd, ps, F, hm, hb⟩ := Cm.ex
  show wpAny _ _ (do return (Value.bool (← contains (.ref a) _))) _ _ _
  refine wpAny_bind (contains_own I ha hm (wpAny_mono (run_fnG (W := W0) (us := [.ref a, _]) (vs := [.ref a, x]) (dvs := []) F hr hgd hb .nil takes_0 I (.cons rfl (.cons rx .nil)) h) (fun r s' ⟨v, H', I', rv, b, ev, q⟩ => ?_) fun _ _ e => e))
  subst ev
  cases rv
  exact wpAny_truthy_bool (wpAny_pure ⟨.bl b, H', I', rfl, q⟩)
theorem op_ninOwn {C : Addr} {sp : Sp} (Cm : CalleeM X.prog X.w X.K X.mg X.base C "__contains__" k sp) (hr : Room k X.A) (hgd : X.A.guards = some []) : OpR X (compareOp .NotIn) (rNinOwn C sp) := by
  intro pins s σ H x y u v Q I rx ry h
  obtain ⟨a, dx, fs, rfl, ha, h⟩ := h
  cases ry
  obtain ⟨f, fd, ps, F, hm, hb⟩ := Cm.ex
  show wpAny _ _ (do return (Value.bool (!(← contains (.ref a) _)))) _ _ _
  refine wpAny_bind (contains_own I ha hm (wpAny_mono (run_fnG (W := W0) (us := [.ref a, _]) (vs := [.ref a, x]) (dvs := []) F hr hgd hb .nil takes_0 I (.cons rfl (.cons rx .nil)) h) (fun r s' ⟨v, H', I', rv, b, ev, q⟩ => ?_) fun _ _ e => e))
  subst ev
  cases rv
  exact wpAny_truthy_bool (wpAny_pure ⟨.bl (!b), H', I', rfl, q⟩)
theorem op_eqOwn {C : Addr} {sp : Sp} (Cm : CalleeM X.prog X.w X.K X.mg X.base C "__eq__" k sp) (hr : Room k X.A) (hgd : X.A.guards = some []) : OpR X (compareOp .Eq) (rEqOwn C sp) := by
  intro pins s σ H x y u v Q I rx ry h
  obtain ⟨a, b, dx, dy, fs, gs, rfl, rfl, ha, hb', h⟩ := h
  cases rx
  cases ry
  obtain ⟨f, fd, ps, F, hm, hb⟩ := Cm.ex
  obtain ⟨ox, od, J⟩ := inst_at I ha
  obtain ⟨oy, od', J'⟩ := inst_at I hb'
  obtain ⟨m, hF⟩ := I.fr
  refine PySem.W.cmp_K (op := .Eq) (tb := .ref C) hr.units0 hF I.ok.mod.kin J J'.type (by simp [PySem.W.notFirst]) hm.at_ hm.fn ?_
  refine wpAny_mono (run_fnG (W := W0) (us := [.ref a, .ref b]) (vs := [.ref a, .ref b]) (dvs := []) F hr hgd hb .nil takes_0 I (.cons rfl (.cons rfl .nil)) h) (fun r s' ⟨v, H', I', rv, b, ev, q⟩ => ?_) fun _ _ e => e
  subst ev
  cases rv
  exact ⟨.bl b, H', I', rfl, q⟩
theorem boolF_ok {o : Out D} {σ : Sl} {G H : Hp} {Q : VK} {g : Bool → Bool} (s : Same G H) (h : Post X.K cl W σ G H ((boolF o).bind fun r => match r with | .bl b => .ok (.bl (g b)) | _ => .stuck) Q) : ∃ b, o = .ok (.bl b) ∧ Post X.K cl W σ G H (.ok (.bl (g b))) Q := by
  unfold boolF at h
  split at h
  · rename_i b; exact ⟨b, rfl, h⟩
  · exact h.elim
theorem cr_inO (n : Nat) {F : List D → Out D} {fr : Bool} (Cm : CalleeM X.prog X.w X.K X.mg X.base (cl n) "__contains__" k (spP X.K cl 2 fr F)) (hr : Room k X.A) (hgd : X.A.guards = some []) : CmpR X cl W .In (inOD n F) := ⟨_, op_inOwn Cm hr hgd, fun σ G H x y d e Q s rx ry h => by
  cases e <;> try exact h.elim
  rename_i j ds
  obtain ⟨c, h9⟩ := guard_ok (show Post X.K cl W σ G H (guard (decide (j = n)) (boolF (F [.ins j ds, d]))) Q from h)
  subst c
  obtain ⟨a, dx, fs, rfl, q, rk⟩ := ry.inst
  have h' : Post X.K cl W σ G H ((boolF (F [.ins j ds, d])).bind fun r => match r with | .bl b => .ok (.bl (id b)) | _ => .stuck) Q := by
    unfold boolF at h9 ⊢
    split at h9
    · exact h9
    · exact h9.elim
  obtain ⟨b, e1, h2⟩ := boolF_ok s h'
  refine ⟨a, dx, fs, rfl, s _ _ q, rfl, G, [.ins j ds, d], s, .cons ry (.cons rx .nil), ?_⟩
  rw [e1]
  cases fr with
  | true => exact fun p G' H' x hp hn t => by cases t
  | false => exact fun v G' H' x r => ⟨b, r.toBl, h2 (.bl b) G' H' x (.bl b)⟩⟩
theorem cr_ninO (n : Nat) {F : List D → Out D} {fr : Bool} (Cm : CalleeM X.prog X.w X.K X.mg X.base (cl n) "__contains__" k (spP X.K cl 2 fr F)) (hr : Room k X.A) (hgd : X.A.guards = some []) : CmpR X cl W .NotIn (ninOD n F) := ⟨_, op_ninOwn Cm hr hgd, fun σ G H x y d e Q s rx ry h => by
  cases e <;> try exact h.elim
  rename_i j ds
  obtain ⟨c, h9⟩ := guard_ok (show Post X.K cl W σ G H (guard (decide (j = n)) ((boolF (F [.ins j ds, d])).bind fun r => match r with | .bl b => .ok (.bl (!b)) | _ => .stuck)) Q from h)
  subst c
  obtain ⟨a, dx, fs, rfl, q, rk⟩ := ry.inst
  obtain ⟨b, e1, h2⟩ := boolF_ok (g := fun b => !b) s h9
  refine ⟨a, dx, fs, rfl, s _ _ q, rfl, G, [.ins j ds, d], s, .cons ry (.cons rx .nil), ?_⟩
  rw [e1]
  cases fr with
  | true => exact fun p G' H' x hp hn t => by cases t
  | false => exact fun v G' H' x r => ⟨b, r.toBl, h2 (.bl (!b)) G' H' x (.bl _)⟩⟩
theorem cr_eqO (n : Nat) {F : List D → Out D} {fr : Bool} (Cm : CalleeM X.prog X.w X.K X.mg X.base (cl n) "__eq__" k (spP X.K cl 2 fr F)) (hr : Room k X.A) (hgd : X.A.guards = some []) : CmpR X cl W .Eq (eqOD n F) := ⟨_, op_eqOwn Cm hr hgd, fun σ G H x y d e Q s rx ry h => by
  cases d <;> try exact h.elim
  cases e <;> try exact h.elim
  rename_i j ds i es
  obtain ⟨c, h9⟩ := guard_ok (show Post X.K cl W σ G H (guard (decide (j = n ∧ i = n)) (boolF (F [.ins j ds, .ins i es]))) Q from h)
  obtain ⟨rfl, rfl⟩ := c
  obtain ⟨a, dx, fs, rfl, q, rk⟩ := rx.inst
  obtain ⟨b, dy, gs, rfl, q', rk'⟩ := ry.inst
  have h' : Post X.K cl W σ G H ((boolF (F [.ins i ds, .ins i es])).bind fun r => match r with | .bl b => .ok (.bl (id b)) | _ => .stuck) Q := by
    unfold boolF at h9 ⊢
    split at h9
    · exact h9
    · exact h9.elim
  obtain ⟨r, e1, h2⟩ := boolF_ok s h'
  refine ⟨a, b, dx, dy, fs, gs, rfl, rfl, s _ _ q, s _ _ q', rfl, G, [.ins i ds, .ins i es], s, .cons rx (.cons ry .nil), ?_⟩
  rw [e1]
  cases fr with
  | true => exact fun p G' H' x hp hn t => by cases t
  | false => exact fun v G' H' x rr => ⟨r, rr.toBl, h2 (.bl r) G' H' x (.bl _)⟩⟩
end

/-! ### a method that changes its object -/
section
variable {X : Cx} {cl : Nat → Addr} {W : WX} {k : Nat} {e : Expr} {es : List Expr} {ml : Env → Res (List D)} {y m : Str} {pos p p2 apos : Pos}
/-- x.m(e, ..), x a slot's own object -/
theorem de_methM (i n : Nat) {N : Nat} {F : D → List D → Out (D × D)} {pl : Sem Bool} (C : CalleeM X.prog X.w X.K X.mg X.base (cl n) m k (spM X.K cl N false F)) (hC : Cls X.K (cl n)) (hr : Room k X.A) (hgd : X.A.guards = some []) (tk : Takes X W) (ha : DAE X cl W (e :: es) ml)
    (hN : X.N[i]? = some y := by rfl) (hv : Vis X.env.scope y := by first | exact Or.inl rfl | exact Or.inr (Or.inl rfl) | exact Or.inr (Or.inr rfl)) (hd : (y == ("__debug__" : Str)) = false := by decide) (hcd : (y == ("__classdict__" : Str)) = false := by decide)
    (hst : starEach (e :: es) X.env = (false, eval e X.env) :: starEach es X.env := by rfl) (hpl : (backTo pos (starEach es X.env)).any (·.1) = false := by rfl)
    (ht : eval (.Call (.Attribute (.Name y p2) m apos) (e :: es) [] pos) X.env = (do
      let ov ← eval (.Name y p2) X.env
      standAt apos.atName
      let (f, first) ← holding [ov] (getMethod ov m pl)
      callWith pos f first (backTo pos (starEach (e :: es) X.env)) (backToKw pos (keywordEach [] X.env))) := by rfl) :
    DE X cl W (.Call (.Attribute (.Name y p2) m apos) (e :: es) [] pos) (fun ρ => match getO ρ i with | some (.ins j fs) => if j = n ∧ (fs.lookup m).isNone = true then (ml ρ).bind fun ds ρ => callM N i F ds ρ else .stuck | _ => .stuck) := by
  obtain ⟨f, fd, ps, FG, hm, hb⟩ := C.ex
  obtain ⟨t, pa, ka⟩ := ha.ex
  refine ⟨_, pe_methG (pe_var hN hv hd hcd) hC hm FG hr hgd hb tk pa hst hpl ht, fun G H σ ρ Q S h => ?_⟩
  split at h
  · rename_i j fs q2
    split at h
    · rename_i hk
      obtain ⟨rfl, hl⟩ := hk
      obtain ⟨a, e1, n1, t1⟩ := S.own i _ (getO_at q2)
      cases t1 with
      | ins h1 h2 h3 =>
        rename_i dx gs
        have rk : RK X.K cl G gs fs := .of h2 h3
        refine ⟨.ref a, e1, a, dx, gs, rfl, h1, lookup_none rk hl, ka G H σ ρ _ S (PostEL.bind h fun ds vs ρ1 G1 H1 st S1 r h1 => ?_)⟩
        exact args_M (t := t) (fr := false) S1 e1 r h1
    · exact h.elim
  · exact h.elim
end
end Vx
end
section
set_option maxRecDepth 100000
set_option maxHeartbeats 1000000
/-! Vx16: sorted over a dict; dicts by a comprehension, of pairs; keywords; objects made with effects. -/
namespace Vx
open PySem PySem.Spec PyProof.Rows L2
open Out (guard)

/-! ### sorted, over the keys of a dict -/
def intKeys : List (Key × D) → Option (List Int)
  | [] => some []
  | (.inl i, _) :: r => (intKeys r).map (i :: ·)
  | _ => none
theorem intKeys_some : ∀ {ds : List (Key × D)} {ns : List Int}, intKeys ds = some ns → ds.map (·.1) = ns.map Sum.inl
  | [], ns, h => by cases h; rfl
  | (.inr _, _) :: _, _, h => by cases h
  | (.inl i, d) :: r, ns, h => by
    obtain ⟨ms, h1, rfl⟩ := Option.map_eq_some_iff.mp (show (intKeys r).map (i :: ·) = some ns from h)
    rw [List.map_cons, List.map_cons, intKeys_some h1]
def rSortedK : List V → Hp → VK → Prop := fun vs H Q => ∃ (a : Addr) (ks : List (Key × V)) (ns : List Int), vs = [V.ref a] ∧ Rd H a (.dK ks) ∧ ks.map (·.1) = ns.map Sum.inl ∧ ∀ p, H p = none → Q (.ref p) (upd H p (.lst ((isort ns).map V.int)))
section
variable {X : Cx} {cl : Nat → Addr} {W : WX} {k : Nat} {a e : Expr} {es : List Expr} {ma : PEnv → Out D} {ml : PEnv → Out (List D)} {pos p : Pos}
theorem cr_sortedK (hcalm : X.calm = true) : CallR X (.builtin "sorted") rSortedK := by
  intro pins s σ H xs us Q I r h
  obtain ⟨a, ks, ns, rfl, hd, hk, q⟩ := h
  rw [Vals.ref1 r]
  obtain ⟨z, lo, vs, rel, dd⟩ := dk_rd I.hok hd
  obtain ⟨ep, hat⟩ := dd.dictAt
  have ek : ks.map (·.1) = vs.map (·.1) := rel.keys
  refine Calls.call_function_entry PyProof.Rows.kind_sorted PyProof.Rows.plain_sorted PyProof.Rows.entry_sorted (PyProof.Rows.args_sorted1 _) ?_
  unfold Builtin.«sorted»
  refine wpAny_bind (m := checkCount "sorted" 1 1 _) (wpAny_pure ?_)
  refine wpAny_bind (PySem.W.kdu_collect (PySem.W.kdl_dict (knd := mixKind X.prog X.w) (kvs := vs) (ep := ep) lo) (I.ok.hd hcalm) hat (by rw [← rel.length]; exact z) fun h' tk acc hk' hacc => ?_)
  have hl : acc.toList.length = vs.length := by rw [Array.length_toList]; exact hacc.1
  have hv : Vals (ns.map V.int) acc.toList := by
    have h1 : Vals (vs.map fun p => kV p.1) acc.toList := keys_at (by rw [Array.length_toList]; exact hacc.1) fun j v e => hacc.2 j v (by rw [← Array.getElem?_toList]; exact e)
    have h2 : (vs.map fun p => kV p.1) = ns.map V.int := by
      have : (vs.map fun p => kV p.1) = (vs.map (·.1)).map kV := by rw [List.map_map]; rfl
      rw [this, ← ek, hk, List.map_map]; rfl
    rw [← h2]; exact h1
  have hz : acc.toList.length ≤ sizeLine := by rw [hl, ← rel.length]; exact z
  refine wpAny_bind (wpAny_newList ?_ hz)
  have hi := hv.ints
  have hb : (h'.push { cls := .type "list", data := .seq acc.toList.toArray }).get? h'.objs.size = some (seqObj "list" acc.toList.toArray 0) := Heap.get?_push_size _ rfl
  refine wpAny_bind (wpAny_holding (wpAny_call_entry PyProof.Rows.slot_list_sort ⟨_, hb, rfl⟩ PyProof.Rows.entry_list_sort
    (SrtO.list_sort_ord SrtO.swo_int hb hz (fun h2 => SrtO.ints_sortable hi h2) fun out h1 h2 => ⟨.none, rfl, ?_⟩) (PyProof.Rows.args_list_sort _)))
  obtain ⟨k1, k2, k3⟩ := SrtO.ints_out hi h1 h2
  obtain ⟨ep2, he2⟩ := PyProof.Rows.sortedHeap_at (vs := acc.toList) (out := out.toArray) hb
  have eq : out.map SrtO.iv = isort ns := sorted_unique (k2.trans (isort_perm ns).symm) k3 (isort_sorted ns)
  have hn : ns.length = vs.length := by
    have := congrArg List.length (hk.symm.trans ek)
    simpa using this
  have hlen : ((isort ns).map V.int).length ≤ sizeLine := by
    rw [List.length_map, (isort_perm ns).length_eq, hn, ← rel.length]; exact z
  have gone : s.heap.get? h'.objs.size = none := by
    cases z : s.heap.get? h'.objs.size with
    | none => rfl
    | some o => exact absurd (Heap.lt_size (hk' _ _ z)) (Nat.lt_irrefl _)
  have hn : H h'.objs.size = none := I.hok.gone gone
  refine wpAny_pure ⟨_, rfl, .ref h'.objs.size, upd H h'.objs.size (.lst ((isort ns).map V.int)), I.laidN (t' := tk) (fun b o e => ?_) gone hn ⟨hlen, out, ep2, ?_, he2⟩, rfl, q _ hn⟩
  · have e2 := hk' b o e
    have hlt : b < h'.objs.size := Heap.lt_size e2
    rw [PyProof.Rows.sortedHeap_old (Nat.ne_of_lt hlt) (by rw [size_push']; exact Nat.lt_succ_of_lt hlt)]
    exact Heap.get?_push_of_some _ e2
  · rw [← eq]; exact vals_of_ints k1
theorem dn_sortedK (hm : X.mg "sorted" = none) (hc : X.calm = true) (ha : DA X cl W [a] ml) (hg : Gl X "sorted" := by rfl) (he : starEach [a] X.env = (false, eval a X.env) :: starEach [] X.env := by rfl) :
    DN X cl W (.Call (.Name "sorted" p) [a] [] pos) (fun ρ => (ml ρ).bind (one1 fun d => (Out.ofOpt (kvsD d)).bind fun kvs => (Out.ofOpt (intKeys kvs)).bind fun ns => .ok (.lst ((isort ns).map .int)))) :=
  dn_callR (fun t pa => pe_callB (cr_sortedK hc) hg hm (by decide +kernel) pa (by decide) (by decide) he) (fun σ G H vs ds Q s r h => by
    obtain ⟨v, d, rfl, rfl, rv, h⟩ := one1N_ok r h
    obtain ⟨kvs, h1, h⟩ := ofOptN_ok h
    obtain ⟨ns, h2, h⟩ := ofOptN_ok h
    obtain ⟨q, ks, rfl, rk, hd, _⟩ := rv.dict h1
    refine ⟨q, ks, ns, rfl, hd H s, by rw [rk.keys]; exact intKeys_some h2, fun p hp => ?_⟩
    exact PostN.newLst s h (RL.ints _) p hp) ha
end

/-! ### dict(pairs) -/
def pairsD : List D → Option (List (Key × D))
  | [] => some []
  | .tup [k, v] :: r => (keyD k).bind fun k => (pairsD r).map ((k, v) :: ·)
  | _ :: _ => none
def mergeD (kvs more : List (Key × D)) : List (Key × D) := more.foldl (fun acc kv => putD acc kv.1 kv.2) kvs
theorem RK.merge {K : PySem.W.Frag} {cl : Nat → Addr} {G : Hp} {ms : List (Key × V)} {md : List (Key × D)} (h : RK K cl G ms md) : ∀ {ks : List (Key × V)} {ds : List (Key × D)}, RK K cl G ks ds → RK K cl G (L2.mergeK ks ms) (mergeD ds md) := by
  induction h with
  | nil => exact fun h => h
  | cons a _ ih => exact fun h => ih (h.put a)
theorem pairs_rel {K : PySem.W.Frag} {cl : Nat → Addr} {G : Hp} : ∀ {ds : List D} {xs : List V} {kvs : List (Key × D)}, RL K cl G xs ds → pairsD ds = some kvs →
    ∃ (ps : List Addr) (ks : List (Key × V)), xs = ps.map V.ref ∧ RK K cl G ks kvs ∧ ∀ H, Same G H → Paired (fun p kv => SqT K H p [kV kv.1, kv.2]) ps ks
  | [], _, kvs, .nil, h => by cases h; exact ⟨[], [], rfl, .nil, fun _ _ => .nil⟩
  | d :: ds, _, kvs, .cons (v := v) r rs, h => by
    unfold pairsD at h
    split at h
    · rename_i e; cases e
    · rename_i k w r' e
      cases e
      obtain ⟨k', h1, h2⟩ := Option.bind_eq_some_iff.mp h
      obtain ⟨m, h3, rfl⟩ := Option.map_eq_some_iff.mp h2
      obtain ⟨ps, ks, rfl, rk, hp⟩ := pairs_rel rs h3
      cases r with
      | tup q1 q2 =>
        rename_i a xs
        cases q2 with
        | cons r1 q2 =>
          cases q2 with
          | cons r2 q2 =>
            cases q2
            rename_i v1 v2
            have e1 := r1.key h1
            subst e1
            exact ⟨a :: ps, (k', v2) :: ks, rfl, .cons r2 rk, fun H s => .cons (.of (s _ _ q1)) (hp H s)⟩
    · cases h
section
variable {X : Cx} {cl : Nat → Addr} {W : WX} {k : Nat} {a e kx vx tg iter : Expr} {es : List Expr} {ma : PEnv → Out D} {ml : PEnv → Out (List D)} {pos p : Pos}
theorem PostN.newDict {σ : Sl} {G H : Hp} {ks : List (Key × V)} {ds : List (Key × D)} {Q : VK} (s : Same G H) (h : PostN X.K cl W σ G H (.ok (.dK ds)) Q) (r : RK X.K cl G ks ds) : ∀ p, H p = none → Q (.ref p) (upd H p (.dK ks)) := fun p hp =>
  h p G _ (Ext.lay (o := .dK ks) s hp) hp (s.free hp) (.dK upd_same r.keys r.vals)
theorem dn_dictP (hm : X.mg "dict" = none) (hc : X.calm = true) (ha : DA X cl W [a] ml) (hg : Gl X "dict" := by rfl) (he : starEach [a] X.env = (false, eval a X.env) :: starEach [] X.env := by rfl) :
    DN X cl W (.Call (.Name "dict" p) [a] [] pos) (fun ρ => (ml ρ).bind (one1 fun d => (itemsL d).bind fun ds => (Out.ofOpt (pairsD ds)).bind fun kvs => .ok (.dK (mergeD [] kvs)))) :=
  dn_callR (fun t pa => pe_callTy (call_dictP hc) hg hm (by decide +kernel) pa (by decide) (by decide) he) (fun σ G H vs ds Q s r h => by
    obtain ⟨v, d, rfl, rfl, rv, h⟩ := one1N_ok r h
    obtain ⟨l, xs, ds, rfl, hs, rl, h⟩ := PostN.items rv h
    obtain ⟨kvs, h2, h⟩ := ofOptN_ok h
    obtain ⟨ps, ks, rfl, rk, hp⟩ := pairs_rel rl h2
    exact ⟨l, ps, ks, rfl, hs H s, hp H s, PostN.newDict s h (RK.merge rk .nil)⟩) ha
end

/-! ### keywords alone -/
/-- a def called by keywords alone: their names, how they are put -/
structure CalleeK (P : Program) (w : World) (K : PySem.W.Frag) (mg : Str → Option Value) (base : Heap) (x : Str) (k : Nat) (ks : List Str) (g : {α : Type} → List α → List α) (sp : Sp) : Prop where
  ex : ∃ (f : Addr) (fd : FuncData) (ps : List Str), FnG P w K mg base k f fd ps sp ∧ mg x = some (.ref f) ∧ PySem.W.keepIn K (.ref f) = true ∧ ∀ (s : Shared) (ws : List Value), K.In s.heap → (g ws).length = ps.length → BindsTo s fd ⟨[], ks.zip ws⟩ (ps.zip (g ws))
/-- the values of keywords, from the left -/
structure DQ (X : Cx) (cl : Nat → Addr) (W : WX) (kws : List Keyword) (m : PEnv → Out (List D)) : Prop where
  ex : ∃ t : TA, L2.PK X kws t ∧ ∀ (G H : Hp) (σ : Sl) (ρ : PEnv) (Q : List V → Hp → Prop), Same G H → RS X.K cl G σ ρ → PostL X.K cl W σ G H (m ρ) Q → t σ H Q
section
variable {X : Cx} {cl : Nat → Addr} {W : WX} {k : Nat} {a e : Expr} {kws : List Keyword} {ma : PEnv → Out D} {ml : PEnv → Out (List D)} {pos p kpos : Pos} {nm : Option Str} {x : Str} {ks : List Str} {g : {α : Type} → List α → List α}
theorem dq_nil : DQ X cl W [] (fun _ => .ok []) := ⟨_, pk_nil, fun G H σ ρ Q s rs h => h [] G H (.refl s) .nil⟩
theorem dq_cons (ha : DP X cl W a ma) (hr : DQ X cl W kws ml) : DQ X cl W (⟨nm, a, kpos⟩ :: kws) (fun ρ => (ma ρ).bind fun d => (ml ρ).bind fun ds => .ok (d :: ds)) := by
  obtain ⟨t, p, k⟩ := ha.ex
  obtain ⟨u, p2, k2⟩ := hr.ex
  refine ⟨_, pk_cons p p2, fun G H σ ρ Q s rs h => k G H σ ρ _ s rs (Post.bindL (f := fun d => (ml ρ).bind fun ds => .ok (d :: ds)) h fun d v G1 H1 e r h1 => ?_)⟩
  refine k2 G1 H1 σ ρ _ e.s (rs.mono e.g) (PostL.bindL h1 fun ds vs G2 H2 e2 r2 h2 => ?_)
  exact (show PostL X.K cl W σ G2 H2 (.ok (d :: ds)) Q from h2) (v :: vs) G2 H2 (.refl e2.s) (.cons (r.mono e2.g) r2)
theorem run_fnK {f : Addr} {fd : FuncData} {ps : List Str} {sp : Sp} {pins : List (Addr × Obj)} {σ : Sl} {H : Hp} {s : Shared} {Q : VK} {ws us : List Value} {vs : List V} (F : FnG X.prog X.w X.K X.mg X.base k f fd ps sp) (hr : Room k X.A) (hgd : X.A.guards = some []) (tk : Takes X W)
    (hb : BindsTo s fd ⟨[], ks.zip ws⟩ (ps.zip us)) (I : Inv X pins σ H s) (r : Vals vs us) (h : sp vs H Q (WE W σ)) : wpAny (model X.prog X.w) X.A (call (.ref f) [] (ks.zip ws)) (EP X pins σ Q) X.xe s := by
  refine wpAny_call (codeAny_mono (F.run X.A X.stack s H _ _ _ Q _ hr hgd I.env0 hb r h) fun r s' hq => ?_)
  cases r with
  | error e => exact passAt tk σ pins H s e s' I hq
  | ok fl =>
    cases fl with
    | ret u => exact I.after hq
    | next => exact hq.elim
    | brk => exact hq.elim
    | cont => exact hq.elim
def tCallKw (sp : Sp) (g : {α : Type} → List α → List α) (n : Nat) (W : WX) (t : TA) : TE := fun σ H Q => t σ H fun vs H1 => (g vs).length = n ∧ sp (g vs) H1 Q (WE W σ)
theorem pe_callKw {f : Addr} {fd : FuncData} {ps : List Str} {sp : Sp} {tk : TA} (F : FnG X.prog X.w X.K X.mg X.base k f fd ps sp) (hr : Room k X.A) (hgd : X.A.guards = some []) (hg : Gl X x) (hm : X.mg x = some (.ref f)) (hk : PySem.W.keepIn X.K (.ref f) = true)
    (hb : ∀ (s : Shared) (ws : List Value), X.K.In s.heap → (g ws).length = ps.length → BindsTo s fd ⟨[], ks.zip ws⟩ (ps.zip (g ws))) (hgr : ∀ {vs : List V} {us : List Value}, Vals vs us → Vals (g vs) (g us)) (tks : Takes X W) (hkw : L2.PK X kws tk)
    (hall : (backToKw pos (keywordEach kws X.env)).all (·.1.isSome) = true) (hks : (backToKw pos (keywordEach kws X.env)).filterMap (·.1) = ks) (hdb : (x == ("__debug__" : Str)) = false)
    (hpl : ((backTo pos (starEach [] X.env)).any (·.1) || (backToKw pos (keywordEach kws X.env)).any (·.1.isNone)) = false) :
    PE X (.Call (.Name x p) [] kws pos) (tCallKw sp g ps.length W tk) := by
  refine ⟨fun pins s σ H Q I h => ?_⟩
  refine wpAny_Call_Name_kw (ld_glob I hg hm ?_ hdb)
  refine PySem.W.callWith_KW0 (h₀ := X.base) I.ok.mod.kin hk hall ?_ hpl
  refine thn (hkw.run pos pins s σ H _ I h) fun ws s2 ⟨zs, H2, I2, rz, l1, q2⟩ => ⟨I2.kIn, ?_⟩
  rw [hks]
  have r2 := hgr rz
  exact run_fnK F hr hgd tks (hb s2 ws I2.kIn (r2.length.symm.trans l1)) I2 r2 q2
theorem dp_callK {n : Nat} {fr : Bool} {F : List D → Out D} (C : CalleeK X.prog X.w X.K X.mg X.base x k ks g (spP X.K cl n fr F)) (hr : Room k X.A) (hgd : X.A.guards = some []) (tk : Takes X W) (hgr : ∀ {vs : List V} {us : List Value}, Vals vs us → Vals (g vs) (g us))
    (hgd2 : ∀ {G : Hp} {vs : List V} {ds : List D}, RL X.K cl G vs ds → RL X.K cl G (g vs) (g ds)) (ha : DQ X cl W kws ml) (hg : Gl X x := by rfl) (hall : (backToKw pos (keywordEach kws X.env)).all (·.1.isSome) = true := by rfl) (hks : (backToKw pos (keywordEach kws X.env)).filterMap (·.1) = ks := by rfl) (hdb : (x == ("__debug__" : Str)) = false := by decide)
    (hpl : ((backTo pos (starEach [] X.env)).any (·.1) || (backToKw pos (keywordEach kws X.env)).any (·.1.isNone)) = false := by rfl) :
    DP X cl W (.Call (.Name x p) [] kws pos) (fun ρ => (ml ρ).bind fun ds => guard (decide ((g ds).length = n)) (F (g ds))) := by
  obtain ⟨f, fd, ps, FG, hm, hk, hb⟩ := C.ex
  obtain ⟨t, pa, ka⟩ := ha.ex
  have hn : ∀ vs H Q E, spP X.K cl n fr F vs H Q E → vs.length = ps.length := FG.len
  refine ⟨_, pe_callKw FG hr hgd hg hm hk hb hgr tk pa hall hks hdb hpl, fun G H σ ρ Q s rs h => ka G H σ ρ _ s rs (PostL.bind h fun ds vs G1 H1 e1 r h1 => ?_)⟩
  obtain ⟨c, h2⟩ := guard_ok h1
  have r2 := hgd2 r
  have hsp : spP X.K cl n fr F (g vs) H1 Q (WE W σ) := ⟨by rw [r2.length]; exact c, G1, g ds, e1.s, r2, PostC.post (n := n) h2⟩
  exact ⟨hn _ _ _ _ hsp, hsp⟩
end
end Vx
end
section
set_option maxRecDepth 100000
set_option maxHeartbeats 1000000
/-! Vx17: dict comprehensions. -/
namespace Vx
open PySem PySem.Spec PyProof.Rows L2
open Out (guard)

def dcGo (f : D → Out (Option (Key × D))) : List D → List (Key × D) → Out (List (Key × D))
  | [], acc => .ok acc
  | d :: ds, acc => match f d with
    | .ok (some (k, v)) => dcGo f ds (putD acc k v)
    | .ok none => dcGo f ds acc
    | _ => .stuck
def dcF (fg : D → PEnv → Out PEnv) (mt : PEnv → Out Bool) (mk mv : PEnv → Out D) (ρ : PEnv) (d : D) : Out (Option (Key × D)) :=
  (fg d ρ).bind fun ρ2 => (mt ρ2).bind fun c => if c = true then (mk ρ2).bind fun k => (Out.ofOpt (keyD k)).bind fun k => (mv ρ2).bind fun v => .ok (some (k, v)) else .ok none
def dcP (mi : PEnv → Out (List D)) (fg : D → PEnv → Out PEnv) (mt : PEnv → Out Bool) (mk mv : PEnv → Out D) (vs : List Nat) (ρ : PEnv) : Out D :=
  (mi ρ).bind fun ds => guard (decide (ds.length ≤ sizeLine)) ((dcGo (dcF fg mt mk mv (wipeV ρ vs)) ds []).bind fun es => .ok (.dK es))
theorem length_putD (kvs : List (Key × D)) (k : Key) (v : D) : (putD kvs k v).length ≤ kvs.length + 1 := by
  unfold putD
  split
  · rw [List.length_map]; omega
  · rw [List.length_append]; simp
theorem dcGo_noexc {F : D → Out (Option (Key × D))} : ∀ (l : List D) (acc : List (Key × D)) (x : Exn), dcGo F l acc ≠ .exc x
  | [], acc, x, h => by cases h
  | d :: l, acc, x, h => by
    unfold dcGo at h
    split at h
    · exact dcGo_noexc l _ x h
    · exact dcGo_noexc l _ x h
    · cases h
theorem dcGo_cons {F : D → Out (Option (Key × D))} {d : D} {ds : List D} {acc r : List (Key × D)} (h : dcGo F (d :: ds) acc = .ok r) : ∃ o, F d = .ok o ∧ ((∃ k v, o = some (k, v) ∧ dcGo F ds (putD acc k v) = .ok r) ∨ (o = none ∧ dcGo F ds acc = .ok r)) := by
  unfold dcGo at h
  split at h
  · rename_i k v q; exact ⟨_, q, .inl ⟨k, v, rfl, h⟩⟩
  · rename_i q; exact ⟨_, q, .inr ⟨rfl, h⟩⟩
  · cases h
theorem dcF_ok {fg : D → PEnv → Out PEnv} {mt : PEnv → Out Bool} {mk mv : PEnv → Out D} {ρ : PEnv} {d : D} {o : Option (Key × D)} (h : dcF fg mt mk mv ρ d = .ok o) :
    ∃ ρ2 c, fg d ρ = .ok ρ2 ∧ mt ρ2 = .ok c ∧ ((c = true ∧ ∃ k j v, mk ρ2 = .ok k ∧ keyD k = some j ∧ mv ρ2 = .ok v ∧ o = some (j, v)) ∨ (c = false ∧ o = none)) := by
  obtain ⟨ρ2, h1, h2⟩ := bind_ok_of h
  obtain ⟨c, h3, h4⟩ := bind_ok_of h2
  refine ⟨ρ2, c, h1, h3, ?_⟩
  cases c with
  | true =>
    obtain ⟨k, h5, h6⟩ := bind_ok_of (show (mk ρ2).bind _ = .ok o from h4)
    obtain ⟨j, h7, h8⟩ := bind_ok_of h6
    obtain ⟨v, h9, h10⟩ := bind_ok_of h8
    cases h10
    refine .inl ⟨rfl, k, j, v, h5, ?_, h9, rfl⟩
    cases q : keyD k with
    | none => rw [q] at h7; cases h7
    | some i => rw [q] at h7; cases h7; rfl
  | false =>
    cases (show (Out.ok none : Out (Option (Key × D))) = .ok o from h4)
    exact .inr ⟨rfl, rfl⟩
structure DcI (K : PySem.W.Frag) (cl : Nat → Addr) (G1 H1 : Hp) (D0 : Addr) (F : D → Out (Option (Key × D))) (ds : List D) (es : List (Key × D)) (i : Nat) (H' Gi : Hp) (acc : List (Key × V)) (ea : List (Key × D)) : Prop where
  g : Same G1 Gi
  s : Same Gi H'
  f : ∀ b, G1 b = none → Gi b ≠ none → H1 b = none
  h : Same H1 H'
  n : Gi D0 = none
  a : H' D0 = some (.dK acc)
  l : RK K cl Gi acc ea
  z : ea.length ≤ i
  c : dcGo F (ds.drop i) ea = .ok es
theorem DcI.on {K : PySem.W.Frag} {cl : Nat → Addr} {G1 H1 : Hp} {D0 : Addr} {F : D → Out (Option (Key × D))} {ds : List D} {es : List (Key × D)} {i : Nat} {H' Gi : Hp} {acc : List (Key × V)} {ea : List (Key × D)} {G4 H4 : Hp} (I : DcI K cl G1 H1 D0 F ds es i H' Gi acc ea) (h1 : H1 D0 = none)
    (x : Ext Gi H' G4 H4) : Same G1 G4 ∧ (∀ b, G1 b = none → G4 b ≠ none → H1 b = none) ∧ Same H1 H4 ∧ G4 D0 = none ∧ H4 D0 = some (.dK acc) ∧ RK K cl G4 acc ea := by
  have n4 : G4 D0 = none := by
    cases q : G4 D0 with
    | none => rfl
    | some o =>
      have := x.f D0 I.n (by rw [q]; simp)
      rw [I.a] at this; cases this
  refine ⟨I.g.trans x.g, fun b h h' => ?_, I.h.trans x.h, n4, x.h _ _ I.a, I.l.mono x.g⟩
  cases q : Gi b with
  | some o => exact I.f b h (by rw [q]; simp)
  | none => exact I.h.free (x.f b q h')
section
variable {X : Cx} {cl : Nat → Addr} {W : WX} {kx vx tg iter : Expr} {ifs : List Expr} {scope : Scope} {own : List (Str × Nat)} {is : List Nat} {fg : D → PEnv → Out PEnv} {mi : PEnv → Out (List D)} {mt : PEnv → Out Bool} {mk mv : PEnv → Out D} {pos : Pos}
theorem dc_tn {wi : TI} {vs : List Nat} (hsub : ∀ i ∈ is, i ∈ vs)
    (hi : ∀ (G H : Hp) (σ : Sl) (ρ : PEnv) (R' : It → Hp → Prop), Same G H → RS X.K cl G σ ρ → PostI X.K cl W σ G H (mi ρ) R' → wi σ H R') :
    TN X.K cl W (tDc wi (wpG X.K cl is fg) (wpT X.K cl W0 mt) (wpP X.K cl W0 mk) (wpP X.K cl W0 mv) vs) (dcP mi fg mt mk mv vs) := by
  intro G H σ ρ Q s rs h
  refine hi G H σ ρ _ s rs ?_
  unfold dcP at h
  cases qi : mi ρ with
  | stuck => rw [qi] at h; exact h
  | exc x => rw [qi] at h; exact h
  | ok ds =>
  rw [qi] at h
  intro J G1 H1 e1 wk D0 hD0
  have h1 : PostN X.K cl W σ G1 H1 (guard (decide (ds.length ≤ sizeLine)) ((dcGo (dcF fg mt mk mv (wipeV ρ vs)) ds []).bind fun es => .ok (.dK es))) Q := PostN.mono e1 h
  obtain ⟨hz, h2⟩ := PostN.guard h1
  cases qc : dcGo (dcF fg mt mk mv (wipeV ρ vs)) ds [] with
  | stuck => rw [qc] at h2; exact h2.elim
  | exc x => exact (dcGo_noexc ds [] x qc).elim
  | ok es =>
  rw [qc] at h2
  refine ⟨fun i m H' => i ≤ ds.length ∧ m = ds.length - i ∧ ∃ Gi acc ea, DcI X.K cl G1 H1 D0 (dcF fg mt mk mv (wipeV ρ vs)) ds es i H' Gi acc ea, ⟨_, Nat.zero_le _, rfl, G1, [], [], ?_⟩, ?_⟩
  · exact ⟨.refl _, (Ext.lay (o := .dK []) e1.s hD0).s, fun _ a b => absurd a b, (Ext.lay (o := .dK []) e1.s hD0).h, e1.s.free hD0, upd_same, .nil, Nat.le_refl _, qc⟩
  · rintro i m H' ⟨hi, rfl, Gi, acc, ea, I⟩
    by_cases hlt : i < ds.length
    · refine .inr ⟨wk.go i H' (I.g.trans I.s) hlt, fun H2 => i + 1 ≤ ds.length ∧ ∃ Gi acc ea, DcI X.K cl G1 H1 D0 (dcF fg mt mk mv (wipeV ρ vs)) ds es (i + 1) H2 Gi acc ea, fun H2 ⟨a1, a2⟩ => ⟨ds.length - (i + 1), by omega, a1, rfl, a2⟩, fun x H2 y => ?_⟩
      have hd : ds.drop i = ds[i] :: ds.drop (i + 1) := List.drop_eq_getElem_cons hlt
      have hc := I.c
      rw [hd] at hc
      obtain ⟨o, ho, hr⟩ := dcGo_cons hc
      obtain ⟨ρ2, c, q1, q2, q3⟩ := dcF_ok ho
      obtain ⟨G2, x2, rx⟩ := wk.yld i Gi H' x H2 ds[i] I.g I.s (List.getElem?_eq_getElem hlt) y
      refine ⟨G2, wipeV ρ vs, ds[i], x2.s, ((rs.mono (e1.g.trans (I.g.trans x2.g))).wipe vs), rx, ?_⟩
      rw [q1]
      intro σ2 rs2 kept
      refine ⟨kept.wipe hsub, G2, ρ2, x2.s, rs2, ?_⟩
      rw [q2]
      intro G3 H3 x3
      have hz' := I.z
      have hzz : ds.length ≤ sizeLine := by simpa using hz
      rcases q3 with ⟨rfl, k, j, w, q4, q5, q6, rfl⟩ | ⟨rfl, rfl⟩
      · obtain ⟨k2, v2, e2, hr'⟩ := hr.resolve_right (fun ⟨z, _⟩ => by cases z)
        cases e2
        refine ⟨G3, ρ2, x3.s, rs2.mono x3.g, ?_⟩
        rw [q4]
        intro kv G4 H4 x4 rk
        refine ⟨G4, ρ2, x4.s, rs2.mono (x3.g.trans x4.g), ?_⟩
        rw [q6]
        intro vv G5 H5 x5 rv
        obtain ⟨a1, a2, a3, a4, a5, a6⟩ := I.on hD0 (x2.trans (x3.trans (x4.trans x5)))
        refine ⟨acc, j, rk.key q5, a5, by rw [a6.length]; omega, hlt, G5, putK acc j vv, putD ea j w, a1, ?_, a2, ?_, a4, upd_same, a6.put rv, Nat.le_trans (length_putD _ _ _) (by omega), hr'⟩
        · exact fun b o q => by rw [upd_ne (ne_of_none q a4)]; exact x5.s _ _ q
        · exact fun b o q => by rw [upd_ne (ne_of_none q hD0)]; exact a3 _ _ q
      · obtain ⟨a1, a2, a3, a4, a5, a6⟩ := I.on hD0 (x2.trans x3)
        have hr' := hr.resolve_left (fun ⟨_, _, z, _⟩ => by cases z)
        exact ⟨hlt, G3, acc, ea, a1, x3.s, a2, a3, a4, a5, a6, Nat.le_succ_of_le I.z, hr'.2⟩
    · have hi' : i = ds.length := by omega
      subst hi'
      refine .inl ⟨wk.stop _ H' (I.g.trans I.s) (Nat.le_refl _), ?_⟩
      have hc := I.c
      rw [List.drop_length] at hc
      cases hc
      exact h2 D0 Gi H' ⟨I.g, I.h, I.s, I.f⟩ hD0 I.n (.dK I.a I.l.keys I.l.vals)
/-- name = {..} on one line, the name a local -/
theorem ps_setDc {i : Nat} {y : Str} {py spos : Pos} {wi : TI} {g : TG} {tt : TT} {tk tv : TE} (hc : X.calm = true) (hN : X.N.Nodup) (hy : X.N[i]? = some y) (hyl : X.env.scope.names.lookup y = some .local)
    (hsw : swapsWith (.DictComp kx vx [⟨tg, iter, ifs, 0⟩] scope pos) (some (.Name y py)) spos.line X.env = pure true) (hi : PI X tg iter wi) (ok : BlkOk X.N X.env.scope scope own)
    (hg : ∀ (s : Shared) (H : Hp) (C : Addr) (cl : List (Str × Addr)) (fp : List Addr), PG (X.blk s H scope (compEnvC scope cl C X.env) fp) tg g) (ht : ∀ (s : Shared) (H : Hp) (C : Addr) (cl : List (Str × Addr)) (fp : List Addr), PTs (X.blk s H scope (compEnvC scope cl C X.env) fp) ifs tt)
    (hk : ∀ (s : Shared) (H : Hp) (C : Addr) (cl : List (Str × Addr)) (fp : List Addr), PE (X.blk s H scope (compEnvC scope cl C X.env) fp) kx tk)
    (he : ∀ (s : Shared) (H : Hp) (C : Addr) (cl : List (Str × Addr)) (fp : List Addr), PE (X.blk s H scope (compEnvC scope cl C X.env) fp) vx tv) (hs : ∀ x, foldedSetIterable iter X.env x = pure x) :
    PS X (.Assign [.Name y py] (.DictComp kx vx [⟨tg, iter, ifs, 0⟩] scope pos) spos) (tAsg (tDc wi g tt tk tv (own.map (·.2))) (gName i)) := by
  refine ⟨fun pins s σ H D I h => ?_⟩
  rw [exec_Assign_Name_used _ _ _ _ hsw]
  refine wpAny_bind (wpAny_standAt (wpAny_bind ?_))
  show wpAny _ X.A (do let _ ← comprehension (.DictComp kx vx [⟨tg, iter, ifs, 0⟩] scope pos) scope X.env (firstIterPos [⟨tg, iter, ifs, 0⟩] pos) newDict false (eval iter X.env) (some (assign (.Name y py) X.env))) _ _ s
  have h : tDc wi g tt tk tv (own.map (·.2)) σ H (fun x H1 => gName i x σ H1 D.nx) := h
  refine wpAny_bind (thn (dc_core (Qf := fun _ s' => SP X pins D .next s') hc hN I hi ok hg ht hk he hs h fun L C s' m H' I' q hn f => ?_) fun _ s' hq => wpAny_pure (wpAny_pure hq))
  show wpAny _ _ (assign (.Name y py) X.env (.ref L)) _ _ _
  refine wpAny_assign_Name (store_ok2 (v := V.ref L) I' hN hy (.inl hyl) rfl (fun s2 I2 ⟨a, sb, ha⟩ => ?_) (.inr hyl))
  obtain ⟨f0, f1, f2, f3, f4, f5⟩ := f
  have haC : C ≠ a := by
    rcases ha with z | z
    · rw [z]; exact f1
    · exact fun e => f4 y a z e.symm
  refine ⟨m, hn.sameBut sb haC, fun h3 sb3 => ?_⟩
  exact ⟨_, H', I2.turned (t' := s2.toks) (fun b o hb e => (sb3.2 b hb).trans e) f0 f1 f3 f4 f5, q⟩
theorem swD_true {gs : List Comprehension} {py : Pos} {y : Str} {l : Nat} {env : PySem.Env} (hk : env.scope.kind = .function) (hy : env.scope.names.lookup y = some .local) (hl : (py.line == pos.line) = true)
    (ha : (scope.names.any fun (n, k) => n == y && (k == .local || k == .cell)) = false) : swapsWith (.DictComp kx vx gs scope pos) (some (.Name y py)) l env = pure true := by
  have ky : env.kindOf y = some .local := hy
  have hb : env.blockKind = .function := by unfold PySem.Env.blockKind; rw [hk]; rfl
  unfold swapsWith
  simp only [hb, ky, ha, Expr.pos, hl]
  rfl
theorem dc_lc (hc : X.calm = true) (hN : X.N.Nodup) (hi : DI X cl W tg iter mi) (ok : BlkOk X.N X.env.scope scope own) (hsub : ∀ i ∈ is, i ∈ own.map (·.2))
    (hg : ∀ (s : Shared) (H : Hp) (C : Addr) (cs : List (Str × Addr)) (fp : List Addr), DG (X.blk s H scope (compEnvC scope cs C X.env) fp) cl tg is fg)
    (ht : ∀ (s : Shared) (H : Hp) (C : Addr) (cs : List (Str × Addr)) (fp : List Addr), DTs (X.blk s H scope (compEnvC scope cs C X.env) fp) cl ifs mt)
    (hk : ∀ (s : Shared) (H : Hp) (C : Addr) (cs : List (Str × Addr)) (fp : List Addr), DP (X.blk s H scope (compEnvC scope cs C X.env) fp) cl W0 kx mk)
    (he : ∀ (s : Shared) (H : Hp) (C : Addr) (cs : List (Str × Addr)) (fp : List Addr), DP (X.blk s H scope (compEnvC scope cs C X.env) fp) cl W0 vx mv) (hs : ∀ x, foldedSetIterable iter X.env x = pure x) :
    ∃ t : TE, PE X (.DictComp kx vx [⟨tg, iter, ifs, 0⟩] scope pos) t ∧ (∀ (i : Nat) (y : Str) (py spos : Pos), X.N[i]? = some y → X.env.scope.names.lookup y = some .local → swapsWith (.DictComp kx vx [⟨tg, iter, ifs, 0⟩] scope pos) (some (.Name y py)) spos.line X.env = pure true →
      PS X (.Assign [.Name y py] (.DictComp kx vx [⟨tg, iter, ifs, 0⟩] scope pos) spos) (tAsg t (gName i))) ∧ TN X.K cl W t (dcP mi fg mt mk mv (own.map (·.2))) := by
  obtain ⟨wi, p, k⟩ := hi.ex
  refine ⟨_, pe_dc hc hN p ok (fun s H C cs fp => (hg s H C cs fp).pg) (fun s H C cs fp => (ht s H C cs fp).ex) (fun s H C cs fp => (hk s H C cs fp).pe) (fun s H C cs fp => (he s H C cs fp).pe) hs, fun i y py spos hy hyl hsw => ?_, dc_tn hsub k⟩
  exact ps_setDc hc hN hy hyl hsw p ok (fun s H C cs fp => (hg s H C cs fp).pg) (fun s H C cs fp => (ht s H C cs fp).ex) (fun s H C cs fp => (hk s H C cs fp).pe) (fun s H C cs fp => (he s H C cs fp).pe) hs
theorem ddc_frz (T : List Nat) (hc : X.calm = true) (hN : X.N.Nodup) (hi : DI X cl W tg iter mi) (ok : BlkOk X.N X.env.scope scope own) (hsub : ∀ i ∈ is, i ∈ own.map (·.2))
    (hg : ∀ (s : Shared) (H : Hp) (C : Addr) (cs : List (Str × Addr)) (fp : List Addr), DG (X.blk s H scope (compEnvC scope cs C X.env) fp) cl tg is fg)
    (ht : ∀ (s : Shared) (H : Hp) (C : Addr) (cs : List (Str × Addr)) (fp : List Addr), DTs (X.blk s H scope (compEnvC scope cs C X.env) fp) cl ifs mt)
    (hk : ∀ (s : Shared) (H : Hp) (C : Addr) (cs : List (Str × Addr)) (fp : List Addr), DP (X.blk s H scope (compEnvC scope cs C X.env) fp) cl W0 kx mk)
    (he : ∀ (s : Shared) (H : Hp) (C : Addr) (cs : List (Str × Addr)) (fp : List Addr), DP (X.blk s H scope (compEnvC scope cs C X.env) fp) cl W0 vx mv) (hs : ∀ x, foldedSetIterable iter X.env x = pure x := by intro _; rfl) :
    DLc X cl W (.DictComp kx vx [⟨tg, iter, ifs, 0⟩] scope pos) (frzE T (dcP mi fg mt mk mv (own.map (·.2)))) := let ⟨t, a, b, c⟩ := dc_lc (pos := pos) hc hN hi ok hsub hg ht hk he hs; ⟨t, a, b, tf_frz T c⟩
end
end Vx
end
section
set_option maxRecDepth 100000
set_option maxHeartbeats 1000000
/-! Vx18: the law's end. -/
namespace Vx
open PySem PySem.Spec PyProof.Rows L2
open Out (guard)

/-- the promise of a law's def: of a script it gives True -/
def spLaw (K : PySem.W.Frag) (cl : Nat → Addr) (F : List D → Out D) : Sp := spP K cl 1 false F
section
variable {P : Program} {w : World} {K : PySem.W.Frag} {mg mb : Str → Option Value} {cl : Nat → Addr}
/-- the call of the law's def upon a script, seen from an abstract heap that tells of the script alone -/
theorem law_core {k : Nat} {fa a : Addr} {fd : FuncData} {x : Str} {F : List D → Out D} {s1 : Shared} {vs : List Value} {ns : List Int} {H : Hp} (inK : K.In s1.heap) (nG : s1.heap.Ns mainGlobals mg) (nB : s1.heap.Ns builtinsNs mb) (hB : ∀ x : Str, x ≠ "__name__" → mb x = bootBuiltins x)
    (lim : s1.heap.NoLimit) (g0 : s1.gens = #[]) (ha : s1.heap.get? a = some { cls := .type "list", data := .seq vs.toArray }) (rm : Room k callerA) (gd : callerA.guards = some [])
    (FG : ∀ base : Heap, K.In base → base.Ns mainGlobals mg → FnG P w K mg base k fa fd [x] (spLaw K cl F)) (bi : ∀ (s : Shared) (u : Value), BindsTo s fd ⟨[u], []⟩ [(x, u)]) (hF : F [.scr ns] = .ok (.bl true))
    (only : Only H) (hS : SqL K H a (ns.map V.int)) (ok : HOk P w H s1.heap) (alone : ∀ b, H b ≠ none → b = a) (hK : H a ≠ none → K.lookup a = none) :
    codeAny (model P w) callerA (.call (.ref fa) ⟨[.ref a], []⟩) (fun r s' => r = .ok (.ret (.bool true)) ∧ OldK s1.heap s'.heap ∧ s'.os = s1.os ∧ AllBare s'.gens) s1 := by
  have dictOff : ∀ {b : Addr} {o : Obj} {es : Array DictEntry} {ep : Nat}, s1.heap.get? b = some o → o.data = .dict es ep → H b = none := fun {b o es ep} e d => Classical.byContradiction fun q => by
    have eb := alone b q
    subst eb
    rw [ha] at e
    cases e
    exact absurd (show Data.seq vs.toArray _ = Data.dict es ep from d) (fun z => by cases z)
  have hid : ∀ {b : Addr} {o : Obj}, s1.heap.get? b = some o → H b = none → (hidT s1.heap H).get? b = some o := fun e n => hidT_get e n
  have ns2 : ∀ {b : Addr} {m : Str → Option Value}, s1.heap.Ns b m → (hidT s1.heap H).Ns b m := fun {b m} z => by
    obtain ⟨o, es, ep, e, d, r⟩ := z
    exact ⟨o, es, ep, hid e (dictOff e d), d, r⟩
  have kin : K.In (hidT s1.heap H) := fun b o e => hid (inK b o e) (Classical.byContradiction fun q => by
    have eb := alone b q
    subst eb
    rw [hK q] at e
    cases e)
  obtain ⟨ml, l1, l2⟩ := lim
  have env : Env0 P w K mg (hidT s1.heap H) callerA [] s1 H := ⟨rfl, ⟨kin, ns2 nG, ⟨mb, ns2 nB, hB⟩, ml, ns2 l1, l2⟩, fun b o e => of_hidT e, Nat.le_of_eq (hidT_size _ _), trivial, (fun b hb => by cases hb), ok, AllBare.of_eq g0⟩
  have sp : spLaw K cl F [V.ref a] H (fun v _ => v = .bl true) (fun _ _ _ => False) := by
    refine ⟨rfl, H, [.scr ns], .refl _, .cons (.scr hS) .nil, ?_⟩
    rw [hF]
    exact fun v G' H' x r => by cases r; rfl
  refine codeAny_mono ((FG _ kin (ns2 nG)).run callerA [] s1 H ⟨[.ref a], []⟩ [.ref a] [.ref a] _ _ rm gd env (bi s1 (.ref a)) (.cons rfl .nil) sp) fun r s' h => ?_
  match r, h with
  | .error e, h => 
    obtain ⟨_, _, _, _, _, _, _, _, _, _, _, _, z⟩ := h
    exact z.elim
  | .ok (.ret u), h =>
    obtain ⟨v, H', os, bare, un, ok', rv, ev⟩ := h
    have ev : v = .bl true := ev
    subst ev
    cases (show u = Value.bool true from rv)
    refine ⟨rfl, OldK.of_keep fun b o e => ?_, os, bare⟩
    rcases only b with z | ⟨ob, xs, z⟩
    · exact un.keep b o e z (fun z => by cases z) (by simp)
    · have e1 := (ok b _ z).1
      have e2 := (ok' b _ (un.frzs b ob _ z)).1
      rw [e] at e1
      cases e1
      exact e2
  | .ok .next, h => exact h.elim
  | .ok .brk, h => exact h.elim
  | .ok .cont, h => exact h.elim
theorem law_run {k : Nat} {fa a : Addr} {fd : FuncData} {x : Str} {F : List D → Out D} {s1 : Shared} {vs : List Value} {ns : List Int} (inK : K.In s1.heap) (nG : s1.heap.Ns mainGlobals mg) (nB : s1.heap.Ns builtinsNs mb) (hB : ∀ x : Str, x ≠ "__name__" → mb x = bootBuiltins x)
    (lim : s1.heap.NoLimit) (g0 : s1.gens = #[]) (ha : s1.heap.get? a = some { cls := .type "list", data := .seq vs.toArray }) (hi : IntsAre vs ns) (hz : ns.length ≤ sizeLine) (rm : Room k callerA) (gd : callerA.guards = some [])
    (FG : ∀ base : Heap, K.In base → base.Ns mainGlobals mg → FnG P w K mg base k fa fd [x] (spLaw K cl F)) (bi : ∀ (s : Shared) (u : Value), BindsTo s fd ⟨[u], []⟩ [(x, u)]) (hF : F [.scr ns] = .ok (.bl true)) :
    codeAny (model P w) callerA (.call (.ref fa) ⟨[.ref a], []⟩) (fun r s' => r = .ok (.ret (.bool true)) ∧ OldK s1.heap s'.heap ∧ s'.os = s1.os ∧ AllBare s'.gens) s1 := by
  have rv := vals_ints hi
  cases hk : K.lookup a with
  | some o =>
    have e := inK a o hk
    rw [ha] at e
    cases e
    have sq : SqL K (fun _ => none) a (ns.map V.int) := .inr ⟨_, vs.toArray, _, hk, rfl, rfl, rfl, by rw [List.size_toArray, hi.length]; exact hz, by simpa using rv⟩
    exact law_core inK nG nB hB lim g0 ha rm gd FG bi hF (fun _ => .inl rfl) sq (fun b u z => by cases z) (fun b z => absurd rfl z) (fun z => absurd rfl z)
  | none =>
    let H : Hp := fun b => if b = a then some (.frz { cls := .type "list", data := .seq vs.toArray } (.lst (ns.map V.int))) else none
    have hHa : H a = some (.frz { cls := .type "list", data := .seq vs.toArray } (.lst (ns.map V.int))) := if_pos rfl
    have hHn : ∀ {b}, b ≠ a → H b = none := fun hb => if_neg hb
    have sq : SqL K H a (ns.map V.int) := .inl (.inr ⟨_, hHa⟩)
    refine law_core inK nG nB hB lim g0 ha rm gd FG bi hF (fun b => ?_) sq (fun b u z => ?_) (fun b z => Classical.byContradiction fun hb => z (hHn hb)) (fun _ => hk)
    · by_cases hb : b = a
      · exact .inr ⟨_, _, hb ▸ hHa⟩
      · exact .inl (hHn hb)
    · by_cases hb : b = a
      · subst hb
        cases hHa.symm.trans z
        exact ⟨ha, by rw [List.length_map]; exact hz, vs, _, rv, ha⟩
      · cases (hHn hb).symm.trans z
end
/-- the end of a law: what its def computes of every script is True -/
theorem law_end {l : PySem.W.OpenLaw} {n k : Nat} {q : Program} {loose : List Str} {XP : (Str → Option Value) → Heap → Prop} {YP : World → Heap → Prop} {d : DefRec} {x : Str} (hn : l.most = some n) (hz : n ≤ sizeLine) (hdf : d.params.defaults = []) (rm : Room k callerA) (gd : callerA.guards = some [])
    (told : ∀ (w : World) (mg : Str → Option Value) (fa : Addr) (h : Heap), YP w h → h.Ns mainGlobals mg → mg d.name = some (.ref fa) →
      ∃ (K : PySem.W.Frag) (fd : FuncData) (cl : Nat → Addr) (F : List D → Out D), K.In h ∧ (∀ (s : Shared) (u : Value), BindsTo s fd ⟨[u], []⟩ [(x, u)]) ∧ (∀ ns : List Int, ns.length ≤ n → F [.scr ns] = .ok (.bl true)) ∧
        ∀ base : Heap, K.In base → base.Ns mainGlobals mg → FnG l.prog w K mg base k fa fd [x] (spLaw K cl F)) : PySem.W.WalkO q loose XP YP l.row.toRowW d [] (fun f vs => PySem.call f vs) :=
  Att.attach_call hn hdf fun w s₀ s₁ mg mb fa o pm cd doc a vs ns G Y ho hd hcd hmg hobj hints hlen hg => by
    obtain ⟨K, fd, cl, F, KX, bi, hF, FG⟩ := told w mg fa _ Y G.T.g hmg
    exact law_run KX G.T.g G.T.b G.T.builtins G.T.nolimit hg hobj hints (Nat.le_trans hlen hz) rm gd FG bi (hF ns hlen)

/-! ### a head's facts, and what is asked besides -/
def hookV (n : Nat) (fa : List He.Fa) (fn : List He.DefD) (ex : PySem.W.Frag → Bool) : PySem.W.Hook where
  α := Bool × He.AlD
  obs := fun s => (ex (He.frG s.heap.get? (He.asD s.heap.get? n)), He.obsDG n fa fn s.heap.get?)
  val := fun _ => (true, He.valD fn)
  says := fun _ h => ∃ K : PySem.W.Frag, K.In h ∧ He.SaysD fa fn K ∧ ex K = true
  of := fun _ _ e => ⟨_, He.frG_in, congrArg Prod.snd e, congrArg Prod.fst e⟩
  keeps := fun _ _ _ ⟨K, hK, c, e⟩ k => ⟨K, PySem.W.Frag.In.keeps hK k, c, e⟩
theorem hookV_eq {n : Nat} {fa : List He.Fa} {fn : List He.DefD} {ex : PySem.W.Frag → Bool} {g : Addr → Option Obj} {s : Shared} (h : ∀ a, g a = s.heap.get? a) : (ex (He.frG g (He.asD g n)), He.obsDG n fa fn g) = (hookV n fa fn ex).obs s := by
  rw [show g = s.heap.get? from funext h]
  rfl
/-- the checks of a block -/
def blkB (N : List Str) (sc scope : Scope) (own : List (Str × Nat)) : Bool :=
  (match scope.kind with | .function => true | _ => false) && (decide (∀ y ∈ scope.names, scope.names.lookup y.1 = some y.2) && (decide (∀ p ∈ own, N[p.2]? = some p.1) &&
    (decide (∀ y ∈ scope.names, y.2 = .free → sc.names.lookup y.1 = some .cell ∨ sc.names.lookup y.1 = some .free) && decide (∀ y ∈ scope.names, y.2 = .local ∨ y.2 = .cell → y.1 ∈ own.map (·.1) ∨ y.1 ∉ N))))
theorem blk_ok {N : List Str} {sc scope : Scope} (own : List (Str × Nat)) (h : blkB N sc scope own = true := by kernel_rfl) : BlkOk N sc scope own := by
  unfold blkB at h
  simp only [Bool.and_eq_true, decide_eq_true_eq] at h
  obtain ⟨h1, h2, h3, h4, h5⟩ := h
  refine ⟨?_, h2, h3, h4, h5⟩
  split at h1
  · assumption
  · cases h1
theorem dp_const {X : Cx} {cl : Nat → Addr} {W : WX} {x : Str} {i : Int} {pos : Pos} (h : ∃ t, X.mg x = some (.int i t)) (hg : Gl X x := by rfl) (hd : (x == ("__debug__" : Str)) = false := by decide) : DP X cl W (.Name x pos) (fun _ => .ok (.int i)) := by
  obtain ⟨t, h⟩ := h
  exact dp_glob (v := .int i) h ⟨t, rfl⟩ (fun G => .int i) hg hd
/-- how keywords alone bind -/
theorem kwb {K : PySem.W.Frag} {x qual : Str} {params : Arguments} {body : List Stmt} {scope : Scope} {kws : List (Str × V)} {f : Addr} {fd : FuncData} {ps ks : List Str} {g : {α : Type} → List α → List α} (F : FunD K x qual params body scope [] kws f fd)
    (h : ∀ (kV doc pm : Value) (an : Option Addr) (cdv ct : Value) (ws : List Value), (g ws).length = ps.length → bindArgs (PySem.W.fnOf x qual params body scope .none kV doc pm an cdv ct) ⟨[], ks.zip ws⟩ = pure (ps.zip (g ws))) (s : Shared) (ws : List Value) (_ : K.In s.heap) (hl : (g ws).length = ps.length) : BindsTo s fd ⟨[], ks.zip ws⟩ (ps.zip (g ws)) := by
  obtain ⟨oc, od, dV, kV, doc, pm, an, cdv, ct, osl, rfl, lk, hcd, hD, hK⟩ := F.ex
  rcases hD with ⟨_, rfl⟩ | ⟨e, _⟩
  · exact .of_eq (h kV doc pm an cdv ct ws hl)
  · exact absurd rfl e
end Vx
end
section
set_option maxRecDepth 100000
set_option maxHeartbeats 0
namespace Hd
open PySem PySem.Spec PyProof.Rows L2
def top (i : Nat) : Stmt := PySem.Challenge.pw_voicerows_k10_whole_good_and_lean_sets.main.body.getD i (.Pass ⟨0, 0, 0, 0⟩)
def sub (i j : Nat) : Stmt := match top i with
  | .ClassDef _ _ _ b _ _ _ _ _ _ _ => b.getD j (.Pass ⟨0, 0, 0, 0⟩)
  | s => s
abbrev s_is_whole : Stmt := top 6
def d_is_whole : He.DefD := ⟨("is_whole", none), "is_whole", "is_whole", defArgs s_is_whole, defBody s_is_whole, defScope s_is_whole, [], []⟩
abbrev s_is_between : Stmt := top 7
def d_is_between : He.DefD := ⟨("is_between", none), "is_between", "is_between", defArgs s_is_between, defBody s_is_between, defScope s_is_between, [], []⟩
abbrev s_check_number : Stmt := top 8
def d_check_number : He.DefD := ⟨("check_number", none), "check_number", "check_number", defArgs s_check_number, defBody s_check_number, defScope s_check_number, [], []⟩
abbrev s_check_lets : Stmt := top 14
def d_check_lets : He.DefD := ⟨("check_lets", none), "check_lets", "check_lets", defArgs s_check_lets, defBody s_check_lets, defScope s_check_lets, [], []⟩
abbrev s_numbers_to : Stmt := top 15
def d_numbers_to : He.DefD := ⟨("numbers_to", none), "numbers_to", "numbers_to", defArgs s_numbers_to, defBody s_numbers_to, defScope s_numbers_to, [], []⟩
abbrev s_bound_of : Stmt := top 16
def d_bound_of : He.DefD := ⟨("bound_of", none), "bound_of", "bound_of", defArgs s_bound_of, defBody s_bound_of, defScope s_bound_of, [], []⟩
abbrev s_fault_to : Stmt := top 17
def d_fault_to : He.DefD := ⟨("fault_to", none), "fault_to", "fault_to", defArgs s_fault_to, defBody s_fault_to, defScope s_fault_to, [], []⟩
abbrev s_is_good : Stmt := top 18
def d_is_good : He.DefD := ⟨("is_good", none), "is_good", "is_good", defArgs s_is_good, defBody s_is_good, defScope s_is_good, [], []⟩
abbrev s_good : Stmt := top 19
def d_good : He.DefD := ⟨("good", none), "good", "good", defArgs s_good, defBody s_good, defScope s_good, [], []⟩
abbrev s_lean : Stmt := top 20
def d_lean : He.DefD := ⟨("lean", none), "lean", "lean", defArgs s_lean, defBody s_lean, defScope s_lean, [], []⟩
abbrev s_is_rich : Stmt := top 21
def d_is_rich : He.DefD := ⟨("is_rich", none), "is_rich", "is_rich", defArgs s_is_rich, defBody s_is_rich, defScope s_is_rich, [], []⟩
abbrev s_fault : Stmt := top 22
def d_fault : He.DefD := ⟨("fault", none), "fault", "fault", defArgs s_fault, defBody s_fault, defScope s_fault, [], []⟩
abbrev s_good_to : Stmt := top 23
def d_good_to : He.DefD := ⟨("good_to", none), "good_to", "good_to", defArgs s_good_to, defBody s_good_to, defScope s_good_to, [], []⟩
abbrev s_holds_to : Stmt := top 24
def d_holds_to : He.DefD := ⟨("holds_to", none), "holds_to", "holds_to", defArgs s_holds_to, defBody s_holds_to, defScope s_holds_to, [], []⟩
abbrev s__law_hash : Stmt := top 26
def d__law_hash : He.DefD := ⟨("_law_hash", none), "_law_hash", "_law_hash", defArgs s__law_hash, defBody s__law_hash, defScope s__law_hash, [], []⟩
abbrev s__law_random : Stmt := top 27
def d__law_random : He.DefD := ⟨("_law_random", none), "_law_random", "_law_random", defArgs s__law_random, defBody s__law_random, defScope s__law_random, [], []⟩
abbrev s__law_cell : Stmt := top 28
def d__law_cell : He.DefD := ⟨("_law_cell", none), "_law_cell", "_law_cell", defArgs s__law_cell, defBody s__law_cell, defScope s__law_cell, [], []⟩
abbrev s__law_generator : Stmt := top 29
def d__law_generator : He.DefD := ⟨("_law_generator", none), "_law_generator", "_law_generator", defArgs s__law_generator, defBody s__law_generator, defScope s__law_generator, [], []⟩
abbrev s__law_in : Stmt := top 30
def d__law_in : He.DefD := ⟨("_law_in", none), "_law_in", "_law_in", defArgs s__law_in, defBody s__law_in, defScope s__law_in, [], []⟩
abbrev s__law_set : Stmt := top 31
def d__law_set : He.DefD := ⟨("_law_set", none), "_law_set", "_law_set", defArgs s__law_set, defBody s__law_set, defScope s__law_set, [], []⟩
abbrev s__law_fault : Stmt := top 32
def d__law_fault : He.DefD := ⟨("_law_fault", none), "_law_fault", "_law_fault", defArgs s__law_fault, defBody s__law_fault, defScope s__law_fault, [], []⟩
abbrev s__law_closed : Stmt := top 33
def d__law_closed : He.DefD := ⟨("_law_closed", none), "_law_closed", "_law_closed", defArgs s__law_closed, defBody s__law_closed, defScope s__law_closed, [], []⟩
abbrev s__law_good_set : Stmt := top 34
def d__law_good_set : He.DefD := ⟨("_law_good_set", none), "_law_good_set", "_law_good_set", defArgs s__law_good_set, defBody s__law_good_set, defScope s__law_good_set, [], []⟩
abbrev s__law_lean : Stmt := top 35
def d__law_lean : He.DefD := ⟨("_law_lean", none), "_law_lean", "_law_lean", defArgs s__law_lean, defBody s__law_lean, defScope s__law_lean, [], []⟩
abbrev s__law_right : Stmt := top 36
def d__law_right : He.DefD := ⟨("_law_right", none), "_law_right", "_law_right", defArgs s__law_right, defBody s__law_right, defScope s__law_right, [], []⟩
abbrev s__law_great_set : Stmt := top 37
def d__law_great_set : He.DefD := ⟨("_law_great_set", none), "_law_great_set", "_law_great_set", defArgs s__law_great_set, defBody s__law_great_set, defScope s__law_great_set, [], []⟩
abbrev s__law_has : Stmt := top 38
def d__law_has : He.DefD := ⟨("_law_has", none), "_law_has", "_law_has", defArgs s__law_has, defBody s__law_has, defScope s__law_has, [], []⟩
abbrev s__law_great_fault : Stmt := top 39
def d__law_great_fault : He.DefD := ⟨("_law_great_fault", none), "_law_great_fault", "_law_great_fault", defArgs s__law_great_fault, defBody s__law_great_fault, defScope s__law_great_fault, [], []⟩
abbrev s__law_great_rich : Stmt := top 40
def d__law_great_rich : He.DefD := ⟨("_law_great_rich", none), "_law_great_rich", "_law_great_rich", defArgs s__law_great_rich, defBody s__law_great_rich, defScope s__law_great_rich, [], []⟩
abbrev s__law_great_right : Stmt := top 41
def d__law_great_right : He.DefD := ⟨("_law_great_right", none), "_law_great_right", "_law_great_right", defArgs s__law_great_right, defBody s__law_great_right, defScope s__law_great_right, [], []⟩
abbrev s_law : Stmt := top 42
def d_law : He.DefD := ⟨("law", none), "law", "law", defArgs s_law, defBody s_law, defScope s_law, [], []⟩
abbrev s_Lets_init : Stmt := sub 13 0
def d_Lets_init : He.DefD := ⟨("Lets", some "__init__"), "__init__", "Lets.__init__", defArgs s_Lets_init, defBody s_Lets_init, defScope s_Lets_init, [.non], []⟩
abbrev s_Lets_fill : Stmt := sub 13 1
def d_Lets_fill : He.DefD := ⟨("Lets", some "_fill"), "_fill", "Lets._fill", defArgs s_Lets_fill, defBody s_Lets_fill, defScope s_Lets_fill, [], []⟩
abbrev s_Lets_numbers : Stmt := sub 13 2
def d_Lets_numbers : He.DefD := ⟨("Lets", some "numbers"), "numbers", "Lets.numbers", defArgs s_Lets_numbers, defBody s_Lets_numbers, defScope s_Lets_numbers, [], []⟩
abbrev s_Lets_start : Stmt := sub 13 3
def d_Lets_start : He.DefD := ⟨("Lets", some "start"), "start", "Lets.start", defArgs s_Lets_start, defBody s_Lets_start, defScope s_Lets_start, [], []⟩
abbrev s_Lets_contains : Stmt := sub 13 4
def d_Lets_contains : He.DefD := ⟨("Lets", some "__contains__"), "__contains__", "Lets.__contains__", defArgs s_Lets_contains, defBody s_Lets_contains, defScope s_Lets_contains, [], []⟩
abbrev s_Lets_eq : Stmt := sub 13 5
def d_Lets_eq : He.DefD := ⟨("Lets", some "__eq__"), "__eq__", "Lets.__eq__", defArgs s_Lets_eq, defBody s_Lets_eq, defScope s_Lets_eq, [], []⟩
end Hd
end
section
set_option maxRecDepth 100000
set_option maxHeartbeats 0
namespace Hd
open PySem PySem.Spec PyProof.Rows L2 Vx
def fn : List He.DefD := [d_is_whole, d_is_between, d_check_number, d_check_lets, d_numbers_to, d_bound_of, d_fault_to, d_is_good, d_good, d_lean, d_is_rich, d_fault, d_good_to, d_holds_to, d__law_hash, d__law_random, d__law_cell, d__law_generator, d__law_in, d__law_set, d__law_fault, d__law_closed, d__law_good_set, d__law_lean, d__law_right, d__law_great_set, d__law_has, d__law_great_fault, d__law_great_rich, d__law_great_right, d_law, d_Lets_init, d_Lets_fill, d_Lets_numbers, d_Lets_start, d_Lets_contains, d_Lets_eq]
def fa : List He.Fa := [.glo "is_whole", .glo "is_between", .glo "check_number", .glo "Lets", .glo "check_lets", .glo "numbers_to", .glo "bound_of", .glo "fault_to", .glo "is_good", .glo "good", .glo "lean", .glo "is_rich", .glo "fault", .glo "good_to", .glo "holds_to", .glo "_law_hash", .glo "_law_random", .glo "_law_cell", .glo "_law_generator", .glo "_law_in", .glo "_law_set", .glo "_law_fault", .glo "_law_closed", .glo "_law_good_set", .glo "_law_lean", .glo "_law_right", .glo "_law_great_set", .glo "_law_has", .glo "_law_great_fault", .glo "_law_great_rich", .glo "_law_great_right", .glo "law", .free "ValueError", .free "bool", .free "dict", .free "int", .free "isinstance", .free "len", .free "list", .free "max", .free "min", .free "range", .free "repr", .free "sorted", .free "sum", .free "super", .int "MOST_NUMBERS" 200, .int "MOST_COUNT" 1000, .int "MOST_GOOD_LENGTH" 10000, .cls "Lets", .mkr "Lets", .noat "Lets" "_held", .noat "Lets" "_start", .meth "Lets" "_fill", .meth "Lets" "numbers", .meth "Lets" "start", .meth "Lets" "__contains__", .meth "Lets" "__eq__"]
abbrev R : PySem.W.OpenRow := PySem.W.OpenLaw.row PySem.Challenge.rw_voicerows_k10_whole_good_and_lean_sets
def ex (K : PySem.W.Frag) : Bool := insB K (He.ga K "Lets")
abbrev hk : PySem.W.Hook := hookV 4 fa fn ex
def ob (s : PySem.W.SharedT) : Bool × He.AlD := (ex (He.frG (HandSHeadRun.getT s) (He.asD (HandSHeadRun.getT s) 4)), He.obsDG 4 fa fn (HandSHeadRun.getT s))
theorem ob_eq (s : PySem.W.SharedT) : ob s = hk.obs s.abs := hookV_eq (HandSHeadRun.getT_eq s)
def loose : List Str := (["GapError", "InvalidNumber", "InvalidLets", "InvalidList", "is_whole", "is_between", "check_number", "Lets", "check_lets", "numbers_to", "bound_of", "fault_to", "is_good", "good", "lean", "is_rich", "fault", "good_to", "holds_to", "_law_hash", "_law_random", "_law_cell", "_law_generator", "_law_in", "_law_set", "_law_fault", "_law_closed", "_law_good_set", "_law_lean", "_law_right"] : List Str) ++ (["_law_great_set", "_law_has", "_law_great_fault", "_law_great_rich", "_law_great_right", "MOST_NUMBERS", "MOST_COUNT", "MOST_GOOD_LENGTH"] : List Str)
theorem run (w : World) : HandSHeadRun.RunEq R (PySem.W.view R.prog [42]) hk ob 8000 loose w := by
  intro os
  kernel_rfl
end Hd
end
section
set_option maxRecDepth 100000
set_option maxHeartbeats 4000000
namespace Dv
open PySem PySem.Spec PyProof.Rows L2 Vx Hd
open Out (guard)

def perm_0 {α : Type} : List α → List α
  | [x0] => [x0]
  | _ => []
theorem perm_0_vals {vs : List V} {us : List Value} (r : Vals vs us) : Vals (perm_0 vs) (perm_0 us) := by
  cases r with
  | nil => exact .nil
  | cons r0 r =>
    cases r with
    | nil => exact .cons r0 (.nil)
    | cons _ _ => exact .nil

theorem perm_0_rl {K : PySem.W.Frag} {cl : Nat → Addr} {G : Hp} {vs : List V} {ds : List D} (r : RL K cl G vs ds) : RL K cl G (perm_0 vs) (perm_0 ds) := by
  cases r with
  | nil => exact .nil
  | cons r0 r =>
    cases r with
    | nil => exact .cons r0 (.nil)
    | cons _ _ => exact .nil

def perm_10 {α : Type} : List α → List α
  | [x0, x1] => [x1, x0]
  | _ => []
theorem perm_10_vals {vs : List V} {us : List Value} (r : Vals vs us) : Vals (perm_10 vs) (perm_10 us) := by
  cases r with
  | nil => exact .nil
  | cons r0 r =>
    cases r with
    | nil => exact .nil
    | cons r1 r =>
      cases r with
      | nil => exact .cons r1 (.cons r0 (.nil))
      | cons _ _ => exact .nil

theorem perm_10_rl {K : PySem.W.Frag} {cl : Nat → Addr} {G : Hp} {vs : List V} {ds : List D} (r : RL K cl G vs ds) : RL K cl G (perm_10 vs) (perm_10 ds) := by
  cases r with
  | nil => exact .nil
  | cons r0 r =>
    cases r with
    | nil => exact .nil
    | cons r1 r =>
      cases r with
      | nil => exact .cons r1 (.cons r0 (.nil))
      | cons _ _ => exact .nil

structure Fx (K : PySem.W.Frag) (mg : Str → Option Value) (cl : Nat → Addr) : Prop where
  bool_ : mg "bool" = none
  dict_ : mg "dict" = none
  int_ : mg "int" = none
  isinstance_ : mg "isinstance" = none
  len_ : mg "len" = none
  list_ : mg "list" = none
  max_ : mg "max" = none
  min_ : mg "min" = none
  range_ : mg "range" = none
  repr_ : mg "repr" = none
  sorted_ : mg "sorted" = none
  sum_ : mg "sum" = none
  MOST_COUNT_ : ∃ t, mg "MOST_COUNT" = some (.int 1000 t)
  MOST_GOOD_LENGTH_ : ∃ t, mg "MOST_GOOD_LENGTH" = some (.int 10000 t)
  MOST_NUMBERS_ : ∃ t, mg "MOST_NUMBERS" = some (.int 200 t)
  glo_Lets : mg "Lets" = some (.ref (cl 0))
  cls_Lets : Cls K (cl 0)
  ins_Lets : insB K (cl 0) = true
  na_Lets__held : NoAttr K (cl 0) "_held"
  na_Lets__start : NoAttr K (cl 0) "_start"
  top_ : True

/-! is_whole -/
theorem sc_is_whole : FnScope ["value"] ["value"] (defScope s_is_whole) := ⟨rfl, rfl, rfl, by decide +kernel, rfl, by decide +kernel, by decide +kernel⟩
def M_is_whole : Vx.Env → SRes := fun ρ => (flatE (fun ρ => (((getV ρ 0).bind (isiD "int")).bind toB).bind fun c => if c = true then ((((getV ρ 0).bind (isiD "bool")).bind toB).bind fun c => .ok (.bl (!c))) else .ok (.bl false)) ρ).fin fun d ρ => .rt d ρ
def F_is_whole (ds : List D) : Out D := outP false (M_is_whole (cells ds 1))
theorem b_is_whole {P : Program} {w : World} {K : PySem.W.Frag} {mg : Str → Option Value} {base : Heap} {cl : Nat → Addr} (fx : Fx K mg cl)  {f : Addr} {cdv : Value} {A : Around} {outer : List PySem.Env} {s : Shared} {H : Hp} {E : XK} (hr : Room 0 (cxOf (L2.CX P w) P w K mg base ["value"] "is_whole" (defScope s_is_whole) f cdv A outer s H E).A) (hgd : (cxOf (L2.CX P w) P w K mg base ["value"] "is_whole" (defScope s_is_whole) f cdv A outer s H E).A.guards = some []) :
    DSs (cxOf (L2.CX P w) P w K mg base ["value"] "is_whole" (defScope s_is_whole) f cdv A outer s H E) cl (WofE E) false (defBody s_is_whole) M_is_whole :=
  (dss_one (ds_ret (de_flat (dp_and (dp_isi (T := "int") fx.isinstance_ fx.int_ (by decide +kernel) (by decide) (dp_var 0)) (dp_one (dp_not (dp_isi (T := "bool") fx.isinstance_ fx.bool_ (by decide +kernel) (by decide) (dp_var 0))))))))
theorem ok_is_whole {P : Program} {w : World} {K : PySem.W.Frag} {mg : Str → Option Value} {base : Heap} {cl : Nat → Addr} (fx : Fx K mg cl)  {f : Addr} {fd : FuncData} (Fd : FunD K "is_whole" "is_whole" (defArgs s_is_whole) (defBody s_is_whole) (defScope s_is_whole) [] [] f fd) :
    FnG P w K mg base 1 f fd ["value"] (spP K cl 1 false F_is_whole) :=
  def_pure Fd sc_is_whole (by decide) (fun cdv A outer s H E hr hgd => b_is_whole fx  hr hgd) (fun _ _ => .inr rfl)

/-! is_between -/
theorem sc_is_between : FnScope ["value", "low", "high"] ["value", "low", "high"] (defScope s_is_between) := ⟨rfl, rfl, rfl, by decide +kernel, rfl, by decide +kernel, by decide +kernel⟩
def M_is_between : Vx.Env → SRes := fun ρ => ((flatB (fun ρ => ((((getV ρ 0).bind fun d => (Out.ok []).bind fun ds => .ok (d :: ds)).bind fun ds => guard (decide (ds.length = 1)) (F_is_whole ds)).bind toB).bind fun c => .ok (!c)) ρ).fin fun b ρ => if b = true then ((flatE (fun ρ => Out.ok (D.bl false)) ρ).fin fun d ρ => .rt d ρ) else (.nx ρ)).then fun ρ => (flatE (fun ρ => (((((getV ρ 1).bind fun d => .ok (.bl (isNon d))).bind toB).bind fun c => if c = true then .ok (.bl true) else ((getV ρ 0).bind fun d => (getV ρ 1).bind fun e => geD d e)).bind toB).bind fun c => if c = true then ((((getV ρ 2).bind fun d => .ok (.bl (isNon d))).bind toB).bind fun c => if c = true then .ok (.bl true) else ((getV ρ 0).bind fun d => (getV ρ 2).bind fun e => leD d e)) else .ok (.bl false)) ρ).fin fun d ρ => .rt d ρ
def F_is_between (ds : List D) : Out D := outP false (M_is_between (cells ds 3))
theorem b_is_between {P : Program} {w : World} {K : PySem.W.Frag} {mg : Str → Option Value} {base : Heap} {cl : Nat → Addr} (fx : Fx K mg cl) (C_is_whole : Callee P w K mg base "is_whole" 1 (spP K cl 1 false F_is_whole)) {f : Addr} {cdv : Value} {A : Around} {outer : List PySem.Env} {s : Shared} {H : Hp} {E : XK} (hr : Room 1 (cxOf (L2.CX P w) P w K mg base ["value", "low", "high"] "is_between" (defScope s_is_between) f cdv A outer s H E).A) (hgd : (cxOf (L2.CX P w) P w K mg base ["value", "low", "high"] "is_between" (defScope s_is_between) f cdv A outer s H E).A.guards = some []) :
    DSs (cxOf (L2.CX P w) P w K mg base ["value", "low", "high"] "is_between" (defScope s_is_between) f cdv A outer s H E) cl (WofE E) false (defBody s_is_between) M_is_between :=
  (dss_cons (ds_if (db_flat (dt_not (dt_val (dp_call C_is_whole (hr.mono (by decide)) hgd takes_cx (da_cons (dp_var 0) da_nil))))) (dss_one (ds_ret (de_flat dp_bl))) dss_nil) (dss_one (ds_ret (de_flat (dp_and (dp_or (dp_isN (dp_var 1)) (dp_one (dp_cmpR cr_ge (dp_var 0) (dp_var 1)))) (dp_one (dp_or (dp_isN (dp_var 2)) (dp_one (dp_cmpR cr_le (dp_var 0) (dp_var 2))))))))))
theorem ok_is_between {P : Program} {w : World} {K : PySem.W.Frag} {mg : Str → Option Value} {base : Heap} {cl : Nat → Addr} (fx : Fx K mg cl) (C_is_whole : Callee P w K mg base "is_whole" 1 (spP K cl 1 false F_is_whole)) {f : Addr} {fd : FuncData} (Fd : FunD K "is_between" "is_between" (defArgs s_is_between) (defBody s_is_between) (defScope s_is_between) [] [] f fd) :
    FnG P w K mg base 2 f fd ["value", "low", "high"] (spP K cl 3 false F_is_between) :=
  def_pure Fd sc_is_between (by decide) (fun cdv A outer s H E hr hgd => b_is_between fx C_is_whole hr hgd) (fun _ _ => .inr rfl)

/-! check_number -/
theorem sc_check_number : FnScope ["number", "low", "high"] ["number", "low", "high"] (defScope s_check_number) := ⟨rfl, rfl, rfl, by decide +kernel, rfl, by decide +kernel, by decide +kernel⟩
def M_check_number : Vx.Env → SRes := fun ρ => (flatB (fun ρ => ((((getV ρ 0).bind fun d => ((getV ρ 1).bind fun d => ((getV ρ 2).bind fun d => (Out.ok []).bind fun ds => .ok (d :: ds)).bind fun ds => .ok (d :: ds)).bind fun ds => .ok (d :: ds)).bind fun ds => guard (decide (ds.length = 3)) (F_is_between ds)).bind toB).bind fun c => .ok (!c)) ρ).fin fun b ρ => if b = true then (.stuck) else (.nx ρ)
def F_check_number (ds : List D) : Out D := outP false (M_check_number (cells ds 3))
theorem b_check_number {P : Program} {w : World} {K : PySem.W.Frag} {mg : Str → Option Value} {base : Heap} {cl : Nat → Addr} (fx : Fx K mg cl) (C_is_between : Callee P w K mg base "is_between" 2 (spP K cl 3 false F_is_between)) {f : Addr} {cdv : Value} {A : Around} {outer : List PySem.Env} {s : Shared} {H : Hp} {E : XK} (hr : Room 2 (cxOf (L2.CX P w) P w K mg base ["number", "low", "high"] "check_number" (defScope s_check_number) f cdv A outer s H E).A) (hgd : (cxOf (L2.CX P w) P w K mg base ["number", "low", "high"] "check_number" (defScope s_check_number) f cdv A outer s H E).A.guards = some []) :
    DSs (cxOf (L2.CX P w) P w K mg base ["number", "low", "high"] "check_number" (defScope s_check_number) f cdv A outer s H E) cl (WofE E) false (defBody s_check_number) M_check_number :=
  (dss_one (ds_if (db_flat (dt_not (dt_val (dp_call C_is_between (hr.mono (by decide)) hgd takes_cx (da_cons (dp_var 0) (da_cons (dp_var 1) (da_cons (dp_var 2) da_nil))))))) (dss_one ds_never) dss_nil))
theorem ok_check_number {P : Program} {w : World} {K : PySem.W.Frag} {mg : Str → Option Value} {base : Heap} {cl : Nat → Addr} (fx : Fx K mg cl) (C_is_between : Callee P w K mg base "is_between" 2 (spP K cl 3 false F_is_between)) {f : Addr} {fd : FuncData} (Fd : FunD K "check_number" "check_number" (defArgs s_check_number) (defBody s_check_number) (defScope s_check_number) [] [] f fd) :
    FnG P w K mg base 3 f fd ["number", "low", "high"] (spP K cl 3 false F_check_number) :=
  def_pure Fd sc_check_number (by decide) (fun cdv A outer s H E hr hgd => b_check_number fx C_is_between hr hgd) (fun _ _ => .inr rfl)

/-! check_lets -/
theorem sc_check_lets : FnScope ["lets"] ["lets"] (defScope s_check_lets) := ⟨rfl, rfl, rfl, by decide +kernel, rfl, by decide +kernel, by decide +kernel⟩
def M_check_lets : Vx.Env → SRes := fun ρ => (flatB (fun ρ => (((getV ρ 0).bind (isoD 0)).bind toB).bind fun c => .ok (!c)) ρ).fin fun b ρ => if b = true then (.stuck) else (.nx ρ)
def F_check_lets (ds : List D) : Out D := outP false (M_check_lets (cells ds 1))
theorem b_check_lets {P : Program} {w : World} {K : PySem.W.Frag} {mg : Str → Option Value} {base : Heap} {cl : Nat → Addr} (fx : Fx K mg cl)  {f : Addr} {cdv : Value} {A : Around} {outer : List PySem.Env} {s : Shared} {H : Hp} {E : XK} (hr : Room 0 (cxOf (L2.CX P w) P w K mg base ["lets"] "check_lets" (defScope s_check_lets) f cdv A outer s H E).A) (hgd : (cxOf (L2.CX P w) P w K mg base ["lets"] "check_lets" (defScope s_check_lets) f cdv A outer s H E).A.guards = some []) :
    DSs (cxOf (L2.CX P w) P w K mg base ["lets"] "check_lets" (defScope s_check_lets) f cdv A outer s H E) cl (WofE E) false (defBody s_check_lets) M_check_lets :=
  (dss_one (ds_if (db_flat (dt_not (dt_val (dp_isOwn 0 fx.ins_Lets fx.cls_Lets fx.isinstance_ fx.glo_Lets (dp_var 0))))) (dss_one ds_never) dss_nil))
theorem ok_check_lets {P : Program} {w : World} {K : PySem.W.Frag} {mg : Str → Option Value} {base : Heap} {cl : Nat → Addr} (fx : Fx K mg cl)  {f : Addr} {fd : FuncData} (Fd : FunD K "check_lets" "check_lets" (defArgs s_check_lets) (defBody s_check_lets) (defScope s_check_lets) [] [] f fd) :
    FnG P w K mg base 1 f fd ["lets"] (spP K cl 1 false F_check_lets) :=
  def_pure Fd sc_check_lets (by decide) (fun cdv A outer s H E hr hgd => b_check_lets fx  hr hgd) (fun _ _ => .inr rfl)

/-! Lets_numbers -/
theorem sc_Lets_numbers : FnScope ["self"] ["self"] (defScope s_Lets_numbers) := ⟨rfl, rfl, rfl, by decide +kernel, rfl, by decide +kernel, by decide +kernel⟩
def M_Lets_numbers : Vx.Env → SRes := fun ρ => (frzE [] (fun ρ => (((((getV ρ 0).bind (fldD 0 "_held")).bind fun d => (Out.ok []).bind fun ds => .ok (d :: ds)).bind (one1 listDD)).bind fun d => (Out.ok []).bind fun ds => .ok (d :: ds)).bind (one1 sortedD)) ρ).fin fun d ρ => .rt d ρ
def F_Lets_numbers (ds : List D) : Out D := outP true (M_Lets_numbers (cells ds 1))
theorem b_Lets_numbers {P : Program} {w : World} {K : PySem.W.Frag} {mg : Str → Option Value} {base : Heap} {cl : Nat → Addr} (fx : Fx K mg cl)  {f : Addr} {cdv : Value} {A : Around} {outer : List PySem.Env} {s : Shared} {H : Hp} {E : XK} (hr : Room 0 (cxOf (L2.CX P w) P w K mg base ["self"] "Lets.numbers" (defScope s_Lets_numbers) f cdv A outer s H E).A) (hgd : (cxOf (L2.CX P w) P w K mg base ["self"] "Lets.numbers" (defScope s_Lets_numbers) f cdv A outer s H E).A.guards = some []) :
    DSs (cxOf (L2.CX P w) P w K mg base ["self"] "Lets.numbers" (defScope s_Lets_numbers) f cdv A outer s H E) cl (WofE E) true (defBody s_Lets_numbers) M_Lets_numbers :=
  (dss_one (ds_retF (df_frz [] (dn_sorted hr fx.sorted_ (da_cons (DN.dp (dn_listD fx.list_ rfl (da_cons (dp_fld 0 fx.cls_Lets fx.na_Lets__held (dp_var 0)) da_nil))) da_nil)))))
theorem ok_Lets_numbers {P : Program} {w : World} {K : PySem.W.Frag} {mg : Str → Option Value} {base : Heap} {cl : Nat → Addr} (fx : Fx K mg cl)  {f : Addr} {fd : FuncData} (Fd : FunD K "numbers" "Lets.numbers" (defArgs s_Lets_numbers) (defBody s_Lets_numbers) (defScope s_Lets_numbers) [] [] f fd) :
    FnG P w K mg base 1 f fd ["self"] (spP K cl 1 true F_Lets_numbers) :=
  def_pure Fd sc_Lets_numbers (by decide) (fun cdv A outer s H E hr hgd => b_Lets_numbers fx  hr hgd) (fun _ _ => .inr rfl)

/-! Lets_start -/
theorem sc_Lets_start : FnScope ["self"] ["self"] (defScope s_Lets_start) := ⟨rfl, rfl, rfl, by decide +kernel, rfl, by decide +kernel, by decide +kernel⟩
def M_Lets_start : Vx.Env → SRes := fun ρ => (frzE [] (fun ρ => (getV ρ 0).bind (fldD 0 "_start")) ρ).fin fun d ρ => .rt d ρ
def F_Lets_start (ds : List D) : Out D := outP false (M_Lets_start (cells ds 1))
theorem b_Lets_start {P : Program} {w : World} {K : PySem.W.Frag} {mg : Str → Option Value} {base : Heap} {cl : Nat → Addr} (fx : Fx K mg cl)  {f : Addr} {cdv : Value} {A : Around} {outer : List PySem.Env} {s : Shared} {H : Hp} {E : XK} (hr : Room 0 (cxOf (L2.CX P w) P w K mg base ["self"] "Lets.start" (defScope s_Lets_start) f cdv A outer s H E).A) (hgd : (cxOf (L2.CX P w) P w K mg base ["self"] "Lets.start" (defScope s_Lets_start) f cdv A outer s H E).A.guards = some []) :
    DSs (cxOf (L2.CX P w) P w K mg base ["self"] "Lets.start" (defScope s_Lets_start) f cdv A outer s H E) cl (WofE E) false (defBody s_Lets_start) M_Lets_start :=
  (dss_one (ds_ret (de_frz [] (dp_fld 0 fx.cls_Lets fx.na_Lets__start (dp_var 0)))))
theorem ok_Lets_start {P : Program} {w : World} {K : PySem.W.Frag} {mg : Str → Option Value} {base : Heap} {cl : Nat → Addr} (fx : Fx K mg cl)  {f : Addr} {fd : FuncData} (Fd : FunD K "start" "Lets.start" (defArgs s_Lets_start) (defBody s_Lets_start) (defScope s_Lets_start) [] [] f fd) :
    FnG P w K mg base 1 f fd ["self"] (spP K cl 1 false F_Lets_start) :=
  def_pure Fd sc_Lets_start (by decide) (fun cdv A outer s H E hr hgd => b_Lets_start fx  hr hgd) (fun _ _ => .inr rfl)

/-! numbers_to -/
theorem sc_numbers_to : FnScope ["lets", "most", "number"] ["lets", "most"] (defScope s_numbers_to) := ⟨rfl, rfl, rfl, by decide +kernel, rfl, by decide +kernel, by decide +kernel⟩
def lc1_numbers_to : PEnv → Out D := fun ρ => lcP (fun ρ => ((getV ρ 0).bind fun d => methD 0 "numbers" 1 F_Lets_numbers d []).bind fun d => (itemsL d).bind .ok) (fun (d : D) (ρ : PEnv) => Out.ok (ρ.set 2 (some d))) (fun ρ => ((getV ρ 2).bind fun d => (getV ρ 1).bind fun e => leD d e).bind toB) (fun ρ => getV ρ 2) [2] ρ
def lc2_numbers_to : PEnv → Out D := fun ρ => lcP (fun ρ => ((getV ρ 0).bind fun d => methD 0 "numbers" 1 F_Lets_numbers d []).bind fun d => (itemsL d).bind .ok) (fun (d : D) (ρ : PEnv) => Out.ok (ρ.set 2 (some d))) (fun ρ => ((getV ρ 2).bind fun d => (getV ρ 1).bind fun e => leD d e).bind toB) (fun ρ => getV ρ 2) [2] ρ
def M_numbers_to : Vx.Env → SRes := fun ρ => ((flatB (fun ρ => ((getV ρ 0).bind fun d => methD 0 "start" 1 F_Lets_start d []).bind fun d => .ok (isNon d)) ρ).fin fun b ρ => if b = true then ((frzE [] (fun ρ => lc1_numbers_to ρ) ρ).fin fun d ρ => .rt d ρ) else (.nx ρ)).then fun ρ => (frzE [] (fun ρ => (lc2_numbers_to ρ).bind fun d => (((getV ρ 0).bind fun d => methD 0 "start" 1 F_Lets_start d []).bind fun d => ((getV ρ 1).bind fun d => (Out.ok (D.int 1)).bind fun e => addD d e).bind fun e => match d, e with | .int i, .int j => rgD i j | _, _ => .stuck).bind fun e => addD d e) ρ).fin fun d ρ => .rt d ρ
def F_numbers_to (ds : List D) : Out D := outP false (M_numbers_to (cells ds 3))
theorem b_numbers_to {P : Program} {w : World} {K : PySem.W.Frag} {mg : Str → Option Value} {base : Heap} {cl : Nat → Addr} (fx : Fx K mg cl) (CM_Lets_start : CalleeM P w K mg base (cl 0) "start" 1 (spP K cl 1 false F_Lets_start)) (CM_Lets_numbers : CalleeM P w K mg base (cl 0) "numbers" 1 (spP K cl 1 true F_Lets_numbers)) {f : Addr} {cdv : Value} {A : Around} {outer : List PySem.Env} {s : Shared} {H : Hp} {E : XK} (hr : Room 1 (cxOf (L2.CX P w) P w K mg base ["lets", "most", "number"] "numbers_to" (defScope s_numbers_to) f cdv A outer s H E).A) (hgd : (cxOf (L2.CX P w) P w K mg base ["lets", "most", "number"] "numbers_to" (defScope s_numbers_to) f cdv A outer s H E).A.guards = some []) :
    DSs (cxOf (L2.CX P w) P w K mg base ["lets", "most", "number"] "numbers_to" (defScope s_numbers_to) f cdv A outer s H E) cl (WofE E) false (defBody s_numbers_to) M_numbers_to :=
  (dss_cons (ds_if (db_flat (dt_isN (dp_meth0 0 CM_Lets_start fx.cls_Lets (hr.mono (by decide)) hgd takes_cx (dp_var 0)))) (dss_one (ds_ret (de_frz [] (DN.dp (dn_lc' rfl sc_numbers_to.nd (di_list (DN.dp (dn_meth0 0 CM_Lets_numbers fx.cls_Lets (hr.mono (by decide)) hgd takes_cx (dp_var 0)))) (blk_ok [("number", 2)]) (by decide) (fun s H C cs fp => (dg_name 2 sc_numbers_to.nd)) (fun s H C cs fp => (dts_one (dt_cmpR cr_le (dp_var 2) (dp_var 1)))) (fun s H C cs fp => (dp_var 2))))))) dss_nil) (dss_one (ds_ret (de_frz [] (dp_bin bin_add (DN.dp (dn_lc' rfl sc_numbers_to.nd (di_list (DN.dp (dn_meth0 0 CM_Lets_numbers fx.cls_Lets (hr.mono (by decide)) hgd takes_cx (dp_var 0)))) (blk_ok [("number", 2)]) (by decide) (fun s H C cs fp => (dg_name 2 sc_numbers_to.nd)) (fun s H C cs fp => (dts_one (dt_cmpR cr_le (dp_var 2) (dp_var 1)))) (fun s H C cs fp => (dp_var 2)))) (DN.dp (dn_listRange2 fx.list_ fx.range_ rfl (dp_meth0 0 CM_Lets_start fx.cls_Lets (hr.mono (by decide)) hgd takes_cx (dp_var 0)) (dp_bin bin_add (dp_var 1) dp_int))))))))
theorem ok_numbers_to {P : Program} {w : World} {K : PySem.W.Frag} {mg : Str → Option Value} {base : Heap} {cl : Nat → Addr} (fx : Fx K mg cl) (CM_Lets_start : CalleeM P w K mg base (cl 0) "start" 1 (spP K cl 1 false F_Lets_start)) (CM_Lets_numbers : CalleeM P w K mg base (cl 0) "numbers" 1 (spP K cl 1 true F_Lets_numbers)) {f : Addr} {fd : FuncData} (Fd : FunD K "numbers_to" "numbers_to" (defArgs s_numbers_to) (defBody s_numbers_to) (defScope s_numbers_to) [] [] f fd) :
    FnG P w K mg base 2 f fd ["lets", "most"] (spP K cl 2 false F_numbers_to) :=
  def_pure Fd sc_numbers_to (by decide) (fun cdv A outer s H E hr hgd => b_numbers_to fx CM_Lets_start CM_Lets_numbers hr hgd) (fun _ _ => .inr rfl)

/-! bound_of -/
theorem sc_bound_of : FnScope ["lets", "start"] ["lets"] (defScope s_bound_of) := ⟨rfl, rfl, rfl, by decide +kernel, rfl, by decide +kernel, by decide +kernel⟩
def M_bound_of : Vx.Env → SRes := fun ρ => ((flatE (fun ρ => (((getV ρ 0).bind fun d => methD 0 "start" 1 F_Lets_start d []).bind fun d => .ok (isNon d)).bind fun c => if c = true then (Out.ok (D.int 0)) else ((getV ρ 0).bind fun d => methD 0 "start" 1 F_Lets_start d [])) ρ).fin fun d ρ => orStuck (setC ρ 1 (.sh d)) .nx).then fun ρ => (flatE (fun ρ => ((((getV ρ 0).bind fun d => methD 0 "numbers" 1 F_Lets_numbers d []).bind fun d => (((getV ρ 1).bind fun d => (Out.ok []).bind fun ds => .ok (d :: ds)).bind fun ds => guard (decide (ds.length ≤ sizeLine)) (.ok (.lst ds))).bind fun e => addD d e).bind fun d => (Out.ok []).bind fun ds => .ok (d :: ds)).bind (maxD)) ρ).fin fun d ρ => .rt d ρ
def F_bound_of (ds : List D) : Out D := outP false (M_bound_of (cells ds 2))
theorem b_bound_of {P : Program} {w : World} {K : PySem.W.Frag} {mg : Str → Option Value} {base : Heap} {cl : Nat → Addr} (fx : Fx K mg cl) (CM_Lets_start : CalleeM P w K mg base (cl 0) "start" 1 (spP K cl 1 false F_Lets_start)) (CM_Lets_numbers : CalleeM P w K mg base (cl 0) "numbers" 1 (spP K cl 1 true F_Lets_numbers)) {f : Addr} {cdv : Value} {A : Around} {outer : List PySem.Env} {s : Shared} {H : Hp} {E : XK} (hr : Room 1 (cxOf (L2.CX P w) P w K mg base ["lets", "start"] "bound_of" (defScope s_bound_of) f cdv A outer s H E).A) (hgd : (cxOf (L2.CX P w) P w K mg base ["lets", "start"] "bound_of" (defScope s_bound_of) f cdv A outer s H E).A.guards = some []) :
    DSs (cxOf (L2.CX P w) P w K mg base ["lets", "start"] "bound_of" (defScope s_bound_of) f cdv A outer s H E) cl (WofE E) false (defBody s_bound_of) M_bound_of :=
  (dss_cons (ds_set 1 sc_bound_of.nd (de_flat (dp_if (dt_isN (dp_meth0 0 CM_Lets_start fx.cls_Lets (hr.mono (by decide)) hgd takes_cx (dp_var 0))) dp_int (dp_meth0 0 CM_Lets_start fx.cls_Lets (hr.mono (by decide)) hgd takes_cx (dp_var 0))))) (dss_one (ds_ret (de_flat (dp_max fx.max_ rfl (da_cons (dp_bin bin_add (DN.dp (dn_meth0 0 CM_Lets_numbers fx.cls_Lets (hr.mono (by decide)) hgd takes_cx (dp_var 0))) (DN.dp (dn_lst (da_cons (dp_var 1) da_nil)))) da_nil))))))
theorem ok_bound_of {P : Program} {w : World} {K : PySem.W.Frag} {mg : Str → Option Value} {base : Heap} {cl : Nat → Addr} (fx : Fx K mg cl) (CM_Lets_start : CalleeM P w K mg base (cl 0) "start" 1 (spP K cl 1 false F_Lets_start)) (CM_Lets_numbers : CalleeM P w K mg base (cl 0) "numbers" 1 (spP K cl 1 true F_Lets_numbers)) {f : Addr} {fd : FuncData} (Fd : FunD K "bound_of" "bound_of" (defArgs s_bound_of) (defBody s_bound_of) (defScope s_bound_of) [] [] f fd) :
    FnG P w K mg base 2 f fd ["lets"] (spP K cl 1 false F_bound_of) :=
  def_pure Fd sc_bound_of (by decide) (fun cdv A outer s H E hr hgd => b_bound_of fx CM_Lets_start CM_Lets_numbers hr hgd) (fun _ _ => .inr rfl)

/-! Lets_contains -/
theorem sc_Lets_contains : FnScope ["self", "value"] ["self", "value"] (defScope s_Lets_contains) := ⟨rfl, rfl, rfl, by decide +kernel, rfl, by decide +kernel, by decide +kernel⟩
def M_Lets_contains : Vx.Env → SRes := fun ρ => ((flatB (fun ρ => ((((getV ρ 1).bind fun d => (Out.ok []).bind fun ds => .ok (d :: ds)).bind fun ds => guard (decide (ds.length = 1)) (F_is_whole ds)).bind toB).bind fun c => .ok (!c)) ρ).fin fun b ρ => if b = true then ((flatE (fun ρ => Out.ok (D.bl false)) ρ).fin fun d ρ => .rt d ρ) else (.nx ρ)).then fun ρ => (flatE (fun ρ => (((getV ρ 1).bind fun d => ((getV ρ 0).bind (fldD 0 "_held")).bind fun e => indD d e).bind toB).bind fun c => if c = true then .ok (.bl true) else (((((getV ρ 0).bind (fldD 0 "_start")).bind fun d => .ok (.bl (!isNon d))).bind toB).bind fun c => if c = true then ((getV ρ 1).bind fun d => ((getV ρ 0).bind (fldD 0 "_start")).bind fun e => geD d e) else .ok (.bl false))) ρ).fin fun d ρ => .rt d ρ
def F_Lets_contains (ds : List D) : Out D := outP false (M_Lets_contains (cells ds 2))
theorem b_Lets_contains {P : Program} {w : World} {K : PySem.W.Frag} {mg : Str → Option Value} {base : Heap} {cl : Nat → Addr} (fx : Fx K mg cl) (C_is_whole : Callee P w K mg base "is_whole" 1 (spP K cl 1 false F_is_whole)) {f : Addr} {cdv : Value} {A : Around} {outer : List PySem.Env} {s : Shared} {H : Hp} {E : XK} (hr : Room 1 (cxOf (L2.CX P w) P w K mg base ["self", "value"] "Lets.__contains__" (defScope s_Lets_contains) f cdv A outer s H E).A) (hgd : (cxOf (L2.CX P w) P w K mg base ["self", "value"] "Lets.__contains__" (defScope s_Lets_contains) f cdv A outer s H E).A.guards = some []) :
    DSs (cxOf (L2.CX P w) P w K mg base ["self", "value"] "Lets.__contains__" (defScope s_Lets_contains) f cdv A outer s H E) cl (WofE E) false (defBody s_Lets_contains) M_Lets_contains :=
  (dss_cons (ds_if (db_flat (dt_not (dt_val (dp_call C_is_whole (hr.mono (by decide)) hgd takes_cx (da_cons (dp_var 1) da_nil))))) (dss_one (ds_ret (de_flat dp_bl))) dss_nil) (dss_one (ds_ret (de_flat (dp_or (dp_cmpR (cr_ind hr) (dp_var 1) (dp_fld 0 fx.cls_Lets fx.na_Lets__held (dp_var 0))) (dp_one (dp_and (dp_notN (dp_fld 0 fx.cls_Lets fx.na_Lets__start (dp_var 0))) (dp_one (dp_cmpR cr_ge (dp_var 1) (dp_fld 0 fx.cls_Lets fx.na_Lets__start (dp_var 0)))))))))))
theorem ok_Lets_contains {P : Program} {w : World} {K : PySem.W.Frag} {mg : Str → Option Value} {base : Heap} {cl : Nat → Addr} (fx : Fx K mg cl) (C_is_whole : Callee P w K mg base "is_whole" 1 (spP K cl 1 false F_is_whole)) {f : Addr} {fd : FuncData} (Fd : FunD K "__contains__" "Lets.__contains__" (defArgs s_Lets_contains) (defBody s_Lets_contains) (defScope s_Lets_contains) [] [] f fd) :
    FnG P w K mg base 2 f fd ["self", "value"] (spP K cl 2 false F_Lets_contains) :=
  def_pure Fd sc_Lets_contains (by decide) (fun cdv A outer s H E hr hgd => b_Lets_contains fx C_is_whole hr hgd) (fun _ _ => .inr rfl)

/-! fault_to -/
theorem sc_fault_to : FnScope ["lets", "most", "numbers", "found", "low", "high"] ["lets", "most"] (defScope s_fault_to) := ⟨rfl, rfl, rfl, by decide +kernel, rfl, by decide +kernel, by decide +kernel⟩
def fb1_fault_to : Vx.Env → SRes := fun ρ => (flatB (fun ρ => (((getV ρ 4).bind fun d => (getV ρ 5).bind fun e => leD d e).bind toB).bind fun c => if c = true then (((((getV ρ 4).bind fun d => (getV ρ 5).bind fun e => addD d e).bind fun d => (getV ρ 1).bind fun e => leD d e).bind toB).bind fun c => if c = true then (((getV ρ 3).bind fun d => .ok (isNon d)).bind fun c => if c = true then .ok true else ((((getV ρ 4).bind fun d => (getV ρ 5).bind fun e => addD d e).bind fun d => (((getV ρ 3).bind fun d => (Out.ok (D.int 0)).bind fun e => ixD d e).bind fun d => ((getV ρ 3).bind fun d => (Out.ok (D.int 1)).bind fun e => ixD d e).bind fun e => addD d e).bind fun e => ltD d e).bind toB)) else .ok false) else .ok false) ρ).fin fun b ρ => if b = true then ((flatB (fun ρ => ((((getV ρ 4).bind fun d => (getV ρ 5).bind fun e => addD d e).bind fun d => (getV ρ 0).bind fun e => inOD 0 F_Lets_contains d e).bind fun d => ((((getV ρ 4).bind fun d => (getV ρ 5).bind fun e => addD d e).bind fun d => (Out.ok (D.int 1)).bind fun e => addD d e).bind fun d => (getV ρ 0).bind fun e => inOD 0 F_Lets_contains d e).bind fun e => neD d e).bind toB) ρ).fin fun b ρ => if b = true then ((frzE [] (fun ρ => ((getV ρ 4).bind fun d => ((getV ρ 5).bind fun d => (Out.ok []).bind fun ds => .ok (d :: ds)).bind fun ds => .ok (d :: ds)).bind fun ds => guard (decide (ds.length ≤ sizeLine)) (.ok (.tup ds))) ρ).fin fun d ρ => orStuck (setC ρ 3 (.sh d)) .nx) else (.nx ρ)) else (.nx ρ)
def fb2_fault_to : Vx.Env → SRes := fun ρ => (frzI [] (fun ρ => (getV ρ 2).bind fun d => (itemsL d).bind .ok) ρ).fin fun ds ρ => forL (fun d ρ => setC ρ 5 (.sh d)) fb1_fault_to ds ρ
def M_fault_to : Vx.Env → SRes := fun ρ => (((frzE [] (fun ρ => ((getV ρ 0).bind fun d => ((getV ρ 1).bind fun d => (Out.ok []).bind fun ds => .ok (d :: ds)).bind fun ds => .ok (d :: ds)).bind fun ds => guard (decide (ds.length = 2)) (F_numbers_to ds)) ρ).bind fun d ρ => ((flatE (fun ρ => Out.ok D.non) ρ).bind fun d ρ => (Res.ok [] ρ).bind fun ds ρ => .ok ((false, d) :: ds) ρ).bind fun ds ρ => .ok ((false, d) :: ds) ρ).fin fun ds ρ => orStuck (storeL [2, 3] ds ρ) .nx).then fun ρ => ((frzI [] (fun ρ => (getV ρ 2).bind fun d => (itemsL d).bind .ok) ρ).fin fun ds ρ => forL (fun d ρ => setC ρ 4 (.sh d)) fb2_fault_to ds ρ).then fun ρ => (frzE [] (fun ρ => getV ρ 3) ρ).fin fun d ρ => .rt d ρ
def F_fault_to (ds : List D) : Out D := outP false (M_fault_to (cells ds 6))
theorem b_fault_to {P : Program} {w : World} {K : PySem.W.Frag} {mg : Str → Option Value} {base : Heap} {cl : Nat → Addr} (fx : Fx K mg cl) (C_numbers_to : Callee P w K mg base "numbers_to" 2 (spP K cl 2 false F_numbers_to)) (CM_Lets_contains : CalleeM P w K mg base (cl 0) "__contains__" 2 (spP K cl 2 false F_Lets_contains)) {f : Addr} {cdv : Value} {A : Around} {outer : List PySem.Env} {s : Shared} {H : Hp} {E : XK} (hr : Room 2 (cxOf (L2.CX P w) P w K mg base ["lets", "most", "numbers", "found", "low", "high"] "fault_to" (defScope s_fault_to) f cdv A outer s H E).A) (hgd : (cxOf (L2.CX P w) P w K mg base ["lets", "most", "numbers", "found", "low", "high"] "fault_to" (defScope s_fault_to) f cdv A outer s H E).A.guards = some []) :
    DSs (cxOf (L2.CX P w) P w K mg base ["lets", "most", "numbers", "found", "low", "high"] "fault_to" (defScope s_fault_to) f cdv A outer s H E) cl (WofE E) false (defBody s_fault_to) M_fault_to :=
  (dss_cons (ds_par2 2 3 (dkl_old (de_frz [] (dp_call C_numbers_to (hr.mono (by decide)) hgd takes_cx (da_cons (dp_var 0) (da_cons (dp_var 1) da_nil)))) (dkl_old (de_flat dp_non) dkl_nil)) (hN := sc_fault_to.nd)) (dss_cons (ds_for owns_cx rfl (die_frz [] (di_list (dp_var 2))) (dgc_name 4 sc_fault_to.nd) (dss_one (ds_for owns_cx rfl (die_frz [] (di_list (dp_var 2))) (dgc_name 5 sc_fault_to.nd) (dss_one (ds_if (db_flat (DW.dt (dw_and (dt_cmpR cr_le (dp_var 4) (dp_var 5)) (dw_and (dt_cmpR cr_le (dp_bin bin_add (dp_var 4) (dp_var 5)) (dp_var 1)) (dw_and1 (DW.dt (dw_or (dt_isN (dp_var 3)) (dw_or1 (dt_cmpR cr_lt (dp_bin bin_add (dp_var 4) (dp_var 5)) (dp_bin bin_add (dp_ix (dp_var 3) dp_int) (dp_ix (dp_var 3) dp_int))))))))))) (dss_one (ds_if (db_flat (dt_cmpR (cr_ne hr) (dp_cmpR (cr_inO 0 CM_Lets_contains (hr.mono (by decide)) hgd) (dp_bin bin_add (dp_var 4) (dp_var 5)) (dp_var 0)) (dp_cmpR (cr_inO 0 CM_Lets_contains (hr.mono (by decide)) hgd) (dp_bin bin_add (dp_bin bin_add (dp_var 4) (dp_var 5)) dp_int) (dp_var 0)))) (dss_one (ds_set 3 sc_fault_to.nd (de_frz [] (dp_tup (da_cons (dp_var 4) (da_cons (dp_var 5) da_nil)))))) dss_nil)) dss_nil))))) (dss_one (ds_ret (de_frz [] (dp_var 3))))))
theorem ok_fault_to {P : Program} {w : World} {K : PySem.W.Frag} {mg : Str → Option Value} {base : Heap} {cl : Nat → Addr} (fx : Fx K mg cl) (C_numbers_to : Callee P w K mg base "numbers_to" 2 (spP K cl 2 false F_numbers_to)) (CM_Lets_contains : CalleeM P w K mg base (cl 0) "__contains__" 2 (spP K cl 2 false F_Lets_contains)) {f : Addr} {fd : FuncData} (Fd : FunD K "fault_to" "fault_to" (defArgs s_fault_to) (defBody s_fault_to) (defScope s_fault_to) [] [] f fd) :
    FnG P w K mg base 3 f fd ["lets", "most"] (spP K cl 2 false F_fault_to) :=
  def_pure Fd sc_fault_to (by decide) (fun cdv A outer s H E hr hgd => b_fault_to fx C_numbers_to CM_Lets_contains hr hgd) (fun _ _ => .inr rfl)

/-! is_good -/
theorem sc_is_good : FnScope ["lets"] ["lets"] (defScope s_is_good) := ⟨rfl, rfl, rfl, by decide +kernel, rfl, by decide +kernel, by decide +kernel⟩
def M_is_good : Vx.Env → SRes := fun ρ => (flatE (fun ρ => (((getV ρ 0).bind fun d => ((((getV ρ 0).bind fun d => (Out.ok []).bind fun ds => .ok (d :: ds)).bind fun ds => guard (decide (ds.length = 1)) (F_bound_of ds)).bind fun d => (Out.ok []).bind fun ds => .ok (d :: ds)).bind fun ds => .ok (d :: ds)).bind fun ds => guard (decide (ds.length = 2)) (F_fault_to ds)).bind fun d => .ok (.bl (isNon d))) ρ).fin fun d ρ => .rt d ρ
def F_is_good (ds : List D) : Out D := outP false (M_is_good (cells ds 1))
theorem b_is_good {P : Program} {w : World} {K : PySem.W.Frag} {mg : Str → Option Value} {base : Heap} {cl : Nat → Addr} (fx : Fx K mg cl) (C_fault_to : Callee P w K mg base "fault_to" 3 (spP K cl 2 false F_fault_to)) (C_bound_of : Callee P w K mg base "bound_of" 2 (spP K cl 1 false F_bound_of)) {f : Addr} {cdv : Value} {A : Around} {outer : List PySem.Env} {s : Shared} {H : Hp} {E : XK} (hr : Room 3 (cxOf (L2.CX P w) P w K mg base ["lets"] "is_good" (defScope s_is_good) f cdv A outer s H E).A) (hgd : (cxOf (L2.CX P w) P w K mg base ["lets"] "is_good" (defScope s_is_good) f cdv A outer s H E).A.guards = some []) :
    DSs (cxOf (L2.CX P w) P w K mg base ["lets"] "is_good" (defScope s_is_good) f cdv A outer s H E) cl (WofE E) false (defBody s_is_good) M_is_good :=
  (dss_one (ds_ret (de_flat (dp_isN (dp_call C_fault_to (hr.mono (by decide)) hgd takes_cx (da_cons (dp_var 0) (da_cons (dp_call C_bound_of (hr.mono (by decide)) hgd takes_cx (da_cons (dp_var 0) da_nil)) da_nil)))))))
theorem ok_is_good {P : Program} {w : World} {K : PySem.W.Frag} {mg : Str → Option Value} {base : Heap} {cl : Nat → Addr} (fx : Fx K mg cl) (C_fault_to : Callee P w K mg base "fault_to" 3 (spP K cl 2 false F_fault_to)) (C_bound_of : Callee P w K mg base "bound_of" 2 (spP K cl 1 false F_bound_of)) {f : Addr} {fd : FuncData} (Fd : FunD K "is_good" "is_good" (defArgs s_is_good) (defBody s_is_good) (defScope s_is_good) [] [] f fd) :
    FnG P w K mg base 4 f fd ["lets"] (spP K cl 1 false F_is_good) :=
  def_pure Fd sc_is_good (by decide) (fun cdv A outer s H E hr hgd => b_is_good fx C_fault_to C_bound_of hr hgd) (fun _ _ => .inr rfl)

/-! good -/
theorem sc_good : FnScope ["lets"] ["lets"] (defScope s_good) := ⟨rfl, rfl, rfl, by decide +kernel, rfl, by decide +kernel, by decide +kernel⟩
def M_good : Vx.Env → SRes := fun ρ => ((frzE [] (fun ρ => ((getV ρ 0).bind fun d => (Out.ok []).bind fun ds => .ok (d :: ds)).bind fun ds => guard (decide (ds.length = 1)) (F_check_lets ds)) ρ).fin fun _ ρ => .nx ρ).then fun ρ => (flatE (fun ρ => ((getV ρ 0).bind fun d => (Out.ok []).bind fun ds => .ok (d :: ds)).bind fun ds => guard (decide (ds.length = 1)) (F_is_good ds)) ρ).fin fun d ρ => .rt d ρ
def F_good (ds : List D) : Out D := outP false (M_good (cells ds 1))
theorem b_good {P : Program} {w : World} {K : PySem.W.Frag} {mg : Str → Option Value} {base : Heap} {cl : Nat → Addr} (fx : Fx K mg cl) (C_check_lets : Callee P w K mg base "check_lets" 1 (spP K cl 1 false F_check_lets)) (C_is_good : Callee P w K mg base "is_good" 4 (spP K cl 1 false F_is_good)) {f : Addr} {cdv : Value} {A : Around} {outer : List PySem.Env} {s : Shared} {H : Hp} {E : XK} (hr : Room 4 (cxOf (L2.CX P w) P w K mg base ["lets"] "good" (defScope s_good) f cdv A outer s H E).A) (hgd : (cxOf (L2.CX P w) P w K mg base ["lets"] "good" (defScope s_good) f cdv A outer s H E).A.guards = some []) :
    DSs (cxOf (L2.CX P w) P w K mg base ["lets"] "good" (defScope s_good) f cdv A outer s H E) cl (WofE E) false (defBody s_good) M_good :=
  (dss_cons (ds_expr (de_frz [] (dp_call C_check_lets (hr.mono (by decide)) hgd takes_cx (da_cons (dp_var 0) da_nil)))) (dss_one (ds_ret (de_flat (dp_call C_is_good (hr.mono (by decide)) hgd takes_cx (da_cons (dp_var 0) da_nil))))))
theorem ok_good {P : Program} {w : World} {K : PySem.W.Frag} {mg : Str → Option Value} {base : Heap} {cl : Nat → Addr} (fx : Fx K mg cl) (C_check_lets : Callee P w K mg base "check_lets" 1 (spP K cl 1 false F_check_lets)) (C_is_good : Callee P w K mg base "is_good" 4 (spP K cl 1 false F_is_good)) {f : Addr} {fd : FuncData} (Fd : FunD K "good" "good" (defArgs s_good) (defBody s_good) (defScope s_good) [] [] f fd) :
    FnG P w K mg base 5 f fd ["lets"] (spP K cl 1 false F_good) :=
  def_pure Fd sc_good (by decide) (fun cdv A outer s H E hr hgd => b_good fx C_check_lets C_is_good hr hgd) (fun _ _ => .inr rfl)

/-! is_rich -/
theorem sc_is_rich : FnScope ["lets", "numbers", "low", "high"] ["lets", "numbers", "low"] (defScope s_is_rich) := ⟨rfl, rfl, rfl, by decide +kernel, rfl, by decide +kernel, by decide +kernel⟩
def lc1_is_rich : PEnv → Out D := fun ρ => lcP (fun ρ => (getV ρ 1).bind fun d => (itemsL d).bind .ok) (fun (d : D) (ρ : PEnv) => Out.ok (ρ.set 3 (some d))) (fun ρ => ((((getV ρ 2).bind fun d => (getV ρ 3).bind fun e => addD d e).bind fun d => (getV ρ 0).bind fun e => inOD 0 F_Lets_contains d e).bind toB).bind fun c => if c = true then .ok true else (((((getV ρ 2).bind fun d => (getV ρ 3).bind fun e => addD d e).bind fun d => (Out.ok (D.int 1)).bind fun e => addD d e).bind fun d => (getV ρ 0).bind fun e => inOD 0 F_Lets_contains d e).bind toB)) (fun ρ => getV ρ 3) [3] ρ
def M_is_rich : Vx.Env → SRes := fun ρ => (flatE (fun ρ => (lc1_is_rich ρ).bind fun d => ((Out.ok []).bind fun ds => guard (decide (ds.length ≤ sizeLine)) (.ok (.lst ds))).bind fun e => neD d e) ρ).fin fun d ρ => .rt d ρ
def F_is_rich (ds : List D) : Out D := outP false (M_is_rich (cells ds 4))
theorem b_is_rich {P : Program} {w : World} {K : PySem.W.Frag} {mg : Str → Option Value} {base : Heap} {cl : Nat → Addr} (fx : Fx K mg cl) (CM_Lets_contains : CalleeM P w K mg base (cl 0) "__contains__" 2 (spP K cl 2 false F_Lets_contains)) {f : Addr} {cdv : Value} {A : Around} {outer : List PySem.Env} {s : Shared} {H : Hp} {E : XK} (hr : Room 2 (cxOf (L2.CX P w) P w K mg base ["lets", "numbers", "low", "high"] "is_rich" (defScope s_is_rich) f cdv A outer s H E).A) (hgd : (cxOf (L2.CX P w) P w K mg base ["lets", "numbers", "low", "high"] "is_rich" (defScope s_is_rich) f cdv A outer s H E).A.guards = some []) :
    DSs (cxOf (L2.CX P w) P w K mg base ["lets", "numbers", "low", "high"] "is_rich" (defScope s_is_rich) f cdv A outer s H E) cl (WofE E) false (defBody s_is_rich) M_is_rich :=
  (dss_one (ds_ret (de_flat (dp_cmpR (cr_ne hr) (DN.dp (dn_lc' rfl sc_is_rich.nd (di_list (dp_var 1)) (blk_ok [("high", 3)]) (by decide) (fun s H C cs fp => (dg_name 3 sc_is_rich.nd)) (fun s H C cs fp => (dts_one (DW.dt (dw_or (dt_cmpR (cr_inO 0 CM_Lets_contains (hr.mono (by decide)) hgd) (dp_bin bin_add (dp_var 2) (dp_var 3)) (dp_var 0)) (dw_or1 (dt_cmpR (cr_inO 0 CM_Lets_contains (hr.mono (by decide)) hgd) (dp_bin bin_add (dp_bin bin_add (dp_var 2) (dp_var 3)) dp_int) (dp_var 0))))))) (fun s H C cs fp => (dp_var 3)))) (DN.dp (dn_lst da_nil))))))
theorem ok_is_rich {P : Program} {w : World} {K : PySem.W.Frag} {mg : Str → Option Value} {base : Heap} {cl : Nat → Addr} (fx : Fx K mg cl) (CM_Lets_contains : CalleeM P w K mg base (cl 0) "__contains__" 2 (spP K cl 2 false F_Lets_contains)) {f : Addr} {fd : FuncData} (Fd : FunD K "is_rich" "is_rich" (defArgs s_is_rich) (defBody s_is_rich) (defScope s_is_rich) [] [] f fd) :
    FnG P w K mg base 3 f fd ["lets", "numbers", "low"] (spP K cl 3 false F_is_rich) :=
  def_pure Fd sc_is_rich (by decide) (fun cdv A outer s H E hr hgd => b_is_rich fx CM_Lets_contains hr hgd) (fun _ _ => .inr rfl)

/-! lean -/
theorem sc_lean : FnScope ["lets", "numbers", "low"] ["lets"] (defScope s_lean) := ⟨rfl, rfl, rfl, by decide +kernel, rfl, by decide +kernel, by decide +kernel⟩
def lc1_lean : PEnv → Out D := fun ρ => lcP (fun ρ => (getV ρ 1).bind fun d => (itemsL d).bind .ok) (fun (d : D) (ρ : PEnv) => Out.ok (ρ.set 2 (some d))) (fun ρ => (((getV ρ 0).bind fun d => ((getV ρ 1).bind fun d => ((getV ρ 2).bind fun d => (Out.ok []).bind fun ds => .ok (d :: ds)).bind fun ds => .ok (d :: ds)).bind fun ds => .ok (d :: ds)).bind fun ds => guard (decide (ds.length = 3)) (F_is_rich ds)).bind toB) (fun ρ => Out.ok (D.int 1)) [2] ρ
def M_lean : Vx.Env → SRes := fun ρ => ((frzE [] (fun ρ => ((getV ρ 0).bind fun d => (Out.ok []).bind fun ds => .ok (d :: ds)).bind fun ds => guard (decide (ds.length = 1)) (F_check_lets ds)) ρ).fin fun _ ρ => .nx ρ).then fun ρ => ((flatB (fun ρ => ((getV ρ 0).bind fun d => methD 0 "start" 1 F_Lets_start d []).bind fun d => .ok (!isNon d)) ρ).fin fun b ρ => if b = true then ((flatE (fun ρ => Out.ok (D.bl false)) ρ).fin fun d ρ => .rt d ρ) else (.nx ρ)).then fun ρ => ((frzE [] (fun ρ => (getV ρ 0).bind fun d => methD 0 "numbers" 1 F_Lets_numbers d []) ρ).fin fun d ρ => orStuck (setC ρ 1 (.ow d)) .nx).then fun ρ => (flatE (fun ρ => (lc1_lean ρ).bind fun d => ((Out.ok []).bind fun ds => guard (decide (ds.length ≤ sizeLine)) (.ok (.lst ds))).bind fun e => eqD d e) ρ).fin fun d ρ => .rt d ρ
def F_lean (ds : List D) : Out D := outP false (M_lean (cells ds 3))
theorem b_lean {P : Program} {w : World} {K : PySem.W.Frag} {mg : Str → Option Value} {base : Heap} {cl : Nat → Addr} (fx : Fx K mg cl) (C_check_lets : Callee P w K mg base "check_lets" 1 (spP K cl 1 false F_check_lets)) (C_is_rich : Callee P w K mg base "is_rich" 3 (spP K cl 3 false F_is_rich)) (CM_Lets_start : CalleeM P w K mg base (cl 0) "start" 1 (spP K cl 1 false F_Lets_start)) (CM_Lets_numbers : CalleeM P w K mg base (cl 0) "numbers" 1 (spP K cl 1 true F_Lets_numbers)) {f : Addr} {cdv : Value} {A : Around} {outer : List PySem.Env} {s : Shared} {H : Hp} {E : XK} (hr : Room 3 (cxOf (L2.CX P w) P w K mg base ["lets", "numbers", "low"] "lean" (defScope s_lean) f cdv A outer s H E).A) (hgd : (cxOf (L2.CX P w) P w K mg base ["lets", "numbers", "low"] "lean" (defScope s_lean) f cdv A outer s H E).A.guards = some []) :
    DSs (cxOf (L2.CX P w) P w K mg base ["lets", "numbers", "low"] "lean" (defScope s_lean) f cdv A outer s H E) cl (WofE E) false (defBody s_lean) M_lean :=
  (dss_cons (ds_expr (de_frz [] (dp_call C_check_lets (hr.mono (by decide)) hgd takes_cx (da_cons (dp_var 0) da_nil)))) (dss_cons (ds_if (db_flat (dt_notN (dp_meth0 0 CM_Lets_start fx.cls_Lets (hr.mono (by decide)) hgd takes_cx (dp_var 0)))) (dss_one (ds_ret (de_flat dp_bl))) dss_nil) (dss_cons (ds_setF 1 sc_lean.nd (df_frz [] (dn_meth0 0 CM_Lets_numbers fx.cls_Lets (hr.mono (by decide)) hgd takes_cx (dp_var 0)))) (dss_one (ds_ret (de_flat (dp_cmpR (cr_eq hr) (DN.dp (dn_lc' rfl sc_lean.nd (di_list (dp_var 1)) (blk_ok [("low", 2)]) (by decide) (fun s H C cs fp => (dg_name 2 sc_lean.nd)) (fun s H C cs fp => (dts_one (dt_val (dp_call C_is_rich (hr.mono (by decide)) hgd takes_0 (da_cons (dp_var 0) (da_cons (dp_var 1) (da_cons (dp_var 2) da_nil))))))) (fun s H C cs fp => dp_int))) (DN.dp (dn_lst da_nil)))))))))
theorem ok_lean {P : Program} {w : World} {K : PySem.W.Frag} {mg : Str → Option Value} {base : Heap} {cl : Nat → Addr} (fx : Fx K mg cl) (C_check_lets : Callee P w K mg base "check_lets" 1 (spP K cl 1 false F_check_lets)) (C_is_rich : Callee P w K mg base "is_rich" 3 (spP K cl 3 false F_is_rich)) (CM_Lets_start : CalleeM P w K mg base (cl 0) "start" 1 (spP K cl 1 false F_Lets_start)) (CM_Lets_numbers : CalleeM P w K mg base (cl 0) "numbers" 1 (spP K cl 1 true F_Lets_numbers)) {f : Addr} {fd : FuncData} (Fd : FunD K "lean" "lean" (defArgs s_lean) (defBody s_lean) (defScope s_lean) [] [] f fd) :
    FnG P w K mg base 4 f fd ["lets"] (spP K cl 1 false F_lean) :=
  def_pure Fd sc_lean (by decide) (fun cdv A outer s H E hr hgd => b_lean fx C_check_lets C_is_rich CM_Lets_start CM_Lets_numbers hr hgd) (fun _ _ => .inr rfl)

/-! fault -/
theorem sc_fault : FnScope ["lets"] ["lets"] (defScope s_fault) := ⟨rfl, rfl, rfl, by decide +kernel, rfl, by decide +kernel, by decide +kernel⟩
def M_fault : Vx.Env → SRes := fun ρ => ((frzE [] (fun ρ => ((getV ρ 0).bind fun d => (Out.ok []).bind fun ds => .ok (d :: ds)).bind fun ds => guard (decide (ds.length = 1)) (F_check_lets ds)) ρ).fin fun _ ρ => .nx ρ).then fun ρ => (frzE [] (fun ρ => ((getV ρ 0).bind fun d => ((((getV ρ 0).bind fun d => (Out.ok []).bind fun ds => .ok (d :: ds)).bind fun ds => guard (decide (ds.length = 1)) (F_bound_of ds)).bind fun d => (Out.ok []).bind fun ds => .ok (d :: ds)).bind fun ds => .ok (d :: ds)).bind fun ds => guard (decide (ds.length = 2)) (F_fault_to ds)) ρ).fin fun d ρ => .rt d ρ
def F_fault (ds : List D) : Out D := outP false (M_fault (cells ds 1))
theorem b_fault {P : Program} {w : World} {K : PySem.W.Frag} {mg : Str → Option Value} {base : Heap} {cl : Nat → Addr} (fx : Fx K mg cl) (C_check_lets : Callee P w K mg base "check_lets" 1 (spP K cl 1 false F_check_lets)) (C_fault_to : Callee P w K mg base "fault_to" 3 (spP K cl 2 false F_fault_to)) (C_bound_of : Callee P w K mg base "bound_of" 2 (spP K cl 1 false F_bound_of)) {f : Addr} {cdv : Value} {A : Around} {outer : List PySem.Env} {s : Shared} {H : Hp} {E : XK} (hr : Room 3 (cxOf (L2.CX P w) P w K mg base ["lets"] "fault" (defScope s_fault) f cdv A outer s H E).A) (hgd : (cxOf (L2.CX P w) P w K mg base ["lets"] "fault" (defScope s_fault) f cdv A outer s H E).A.guards = some []) :
    DSs (cxOf (L2.CX P w) P w K mg base ["lets"] "fault" (defScope s_fault) f cdv A outer s H E) cl (WofE E) false (defBody s_fault) M_fault :=
  (dss_cons (ds_expr (de_frz [] (dp_call C_check_lets (hr.mono (by decide)) hgd takes_cx (da_cons (dp_var 0) da_nil)))) (dss_one (ds_ret (de_frz [] (dp_call C_fault_to (hr.mono (by decide)) hgd takes_cx (da_cons (dp_var 0) (da_cons (dp_call C_bound_of (hr.mono (by decide)) hgd takes_cx (da_cons (dp_var 0) da_nil)) da_nil)))))))
theorem ok_fault {P : Program} {w : World} {K : PySem.W.Frag} {mg : Str → Option Value} {base : Heap} {cl : Nat → Addr} (fx : Fx K mg cl) (C_check_lets : Callee P w K mg base "check_lets" 1 (spP K cl 1 false F_check_lets)) (C_fault_to : Callee P w K mg base "fault_to" 3 (spP K cl 2 false F_fault_to)) (C_bound_of : Callee P w K mg base "bound_of" 2 (spP K cl 1 false F_bound_of)) {f : Addr} {fd : FuncData} (Fd : FunD K "fault" "fault" (defArgs s_fault) (defBody s_fault) (defScope s_fault) [] [] f fd) :
    FnG P w K mg base 4 f fd ["lets"] (spP K cl 1 false F_fault) :=
  def_pure Fd sc_fault (by decide) (fun cdv A outer s H E hr hgd => b_fault fx C_check_lets C_fault_to C_bound_of hr hgd) (fun _ _ => .inr rfl)

/-! good_to -/
theorem sc_good_to : FnScope ["lets", "length"] ["lets", "length"] (defScope s_good_to) := ⟨rfl, rfl, rfl, by decide +kernel, rfl, by decide +kernel, by decide +kernel⟩
def M_good_to : Vx.Env → SRes := fun ρ => ((frzE [] (fun ρ => ((getV ρ 0).bind fun d => (Out.ok []).bind fun ds => .ok (d :: ds)).bind fun ds => guard (decide (ds.length = 1)) (F_check_lets ds)) ρ).fin fun _ ρ => .nx ρ).then fun ρ => ((frzE [] (fun ρ => ((getV ρ 1).bind fun d => ((Out.ok (D.int 0)).bind fun d => ((Out.ok (D.int 10000)).bind fun d => (Out.ok []).bind fun ds => .ok (d :: ds)).bind fun ds => .ok (d :: ds)).bind fun ds => .ok (d :: ds)).bind fun ds => guard (decide (ds.length = 3)) (F_check_number ds)) ρ).fin fun _ ρ => .nx ρ).then fun ρ => (flatE (fun ρ => (((getV ρ 0).bind fun d => (((((getV ρ 1).bind fun d => (Out.ok (D.int 3)).bind fun e => subD d e).bind fun d => ((((getV ρ 0).bind fun d => (Out.ok []).bind fun ds => .ok (d :: ds)).bind fun ds => guard (decide (ds.length = 1)) (F_bound_of ds)).bind fun d => (Out.ok []).bind fun ds => .ok (d :: ds)).bind fun ds => .ok (d :: ds)).bind (minD)).bind fun d => (Out.ok []).bind fun ds => .ok (d :: ds)).bind fun ds => .ok (d :: ds)).bind fun ds => guard (decide (ds.length = 2)) (F_fault_to ds)).bind fun d => .ok (.bl (isNon d))) ρ).fin fun d ρ => .rt d ρ
def F_good_to (ds : List D) : Out D := outP false (M_good_to (cells ds 2))
theorem b_good_to {P : Program} {w : World} {K : PySem.W.Frag} {mg : Str → Option Value} {base : Heap} {cl : Nat → Addr} (fx : Fx K mg cl) (C_check_lets : Callee P w K mg base "check_lets" 1 (spP K cl 1 false F_check_lets)) (C_check_number : Callee P w K mg base "check_number" 3 (spP K cl 3 false F_check_number)) (C_fault_to : Callee P w K mg base "fault_to" 3 (spP K cl 2 false F_fault_to)) (C_bound_of : Callee P w K mg base "bound_of" 2 (spP K cl 1 false F_bound_of)) {f : Addr} {cdv : Value} {A : Around} {outer : List PySem.Env} {s : Shared} {H : Hp} {E : XK} (hr : Room 3 (cxOf (L2.CX P w) P w K mg base ["lets", "length"] "good_to" (defScope s_good_to) f cdv A outer s H E).A) (hgd : (cxOf (L2.CX P w) P w K mg base ["lets", "length"] "good_to" (defScope s_good_to) f cdv A outer s H E).A.guards = some []) :
    DSs (cxOf (L2.CX P w) P w K mg base ["lets", "length"] "good_to" (defScope s_good_to) f cdv A outer s H E) cl (WofE E) false (defBody s_good_to) M_good_to :=
  (dss_cons (ds_expr (de_frz [] (dp_call C_check_lets (hr.mono (by decide)) hgd takes_cx (da_cons (dp_var 0) da_nil)))) (dss_cons (ds_expr (de_frz [] (dp_call C_check_number (hr.mono (by decide)) hgd takes_cx (da_cons (dp_var 1) (da_cons dp_int (da_cons (dp_const fx.MOST_GOOD_LENGTH_) da_nil)))))) (dss_one (ds_ret (de_flat (dp_isN (dp_call C_fault_to (hr.mono (by decide)) hgd takes_cx (da_cons (dp_var 0) (da_cons (dp_min fx.min_ rfl (da_cons (dp_bin bin_sub (dp_var 1) dp_int) (da_cons (dp_call C_bound_of (hr.mono (by decide)) hgd takes_cx (da_cons (dp_var 0) da_nil)) da_nil))) da_nil)))))))))
theorem ok_good_to {P : Program} {w : World} {K : PySem.W.Frag} {mg : Str → Option Value} {base : Heap} {cl : Nat → Addr} (fx : Fx K mg cl) (C_check_lets : Callee P w K mg base "check_lets" 1 (spP K cl 1 false F_check_lets)) (C_check_number : Callee P w K mg base "check_number" 3 (spP K cl 3 false F_check_number)) (C_fault_to : Callee P w K mg base "fault_to" 3 (spP K cl 2 false F_fault_to)) (C_bound_of : Callee P w K mg base "bound_of" 2 (spP K cl 1 false F_bound_of)) {f : Addr} {fd : FuncData} (Fd : FunD K "good_to" "good_to" (defArgs s_good_to) (defBody s_good_to) (defScope s_good_to) [] [] f fd) :
    FnG P w K mg base 4 f fd ["lets", "length"] (spP K cl 2 false F_good_to) :=
  def_pure Fd sc_good_to (by decide) (fun cdv A outer s H E hr hgd => b_good_to fx C_check_lets C_check_number C_fault_to C_bound_of hr hgd) (fun _ _ => .inr rfl)

/-! holds_to -/
theorem sc_holds_to : FnScope ["lets", "found"] ["lets"] (defScope s_holds_to) := ⟨rfl, rfl, rfl, by decide +kernel, rfl, by decide +kernel, by decide +kernel⟩
def M_holds_to : Vx.Env → SRes := fun ρ => ((frzE [] (fun ρ => ((getV ρ 0).bind fun d => (Out.ok []).bind fun ds => .ok (d :: ds)).bind fun ds => guard (decide (ds.length = 1)) (F_fault ds)) ρ).fin fun d ρ => orStuck (setC ρ 1 (.sh d)) .nx).then fun ρ => (flatE (fun ρ => ((getV ρ 1).bind fun d => .ok (isNon d)).bind fun c => if c = true then (Out.ok D.non) else ((((getV ρ 1).bind fun d => (Out.ok (D.int 0)).bind fun e => ixD d e).bind fun d => ((getV ρ 1).bind fun d => (Out.ok (D.int 1)).bind fun e => ixD d e).bind fun e => addD d e).bind fun d => (Out.ok (D.int 2)).bind fun e => addD d e)) ρ).fin fun d ρ => .rt d ρ
def F_holds_to (ds : List D) : Out D := outP false (M_holds_to (cells ds 2))
theorem b_holds_to {P : Program} {w : World} {K : PySem.W.Frag} {mg : Str → Option Value} {base : Heap} {cl : Nat → Addr} (fx : Fx K mg cl) (C_fault : Callee P w K mg base "fault" 4 (spP K cl 1 false F_fault)) {f : Addr} {cdv : Value} {A : Around} {outer : List PySem.Env} {s : Shared} {H : Hp} {E : XK} (hr : Room 4 (cxOf (L2.CX P w) P w K mg base ["lets", "found"] "holds_to" (defScope s_holds_to) f cdv A outer s H E).A) (hgd : (cxOf (L2.CX P w) P w K mg base ["lets", "found"] "holds_to" (defScope s_holds_to) f cdv A outer s H E).A.guards = some []) :
    DSs (cxOf (L2.CX P w) P w K mg base ["lets", "found"] "holds_to" (defScope s_holds_to) f cdv A outer s H E) cl (WofE E) false (defBody s_holds_to) M_holds_to :=
  (dss_cons (ds_set 1 sc_holds_to.nd (de_frz [] (dp_call C_fault (hr.mono (by decide)) hgd takes_cx (da_cons (dp_var 0) da_nil)))) (dss_one (ds_ret (de_flat (dp_if (dt_isN (dp_var 1)) dp_non (dp_bin bin_add (dp_bin bin_add (dp_ix (dp_var 1) dp_int) (dp_ix (dp_var 1) dp_int)) dp_int))))))
theorem ok_holds_to {P : Program} {w : World} {K : PySem.W.Frag} {mg : Str → Option Value} {base : Heap} {cl : Nat → Addr} (fx : Fx K mg cl) (C_fault : Callee P w K mg base "fault" 4 (spP K cl 1 false F_fault)) {f : Addr} {fd : FuncData} (Fd : FunD K "holds_to" "holds_to" (defArgs s_holds_to) (defBody s_holds_to) (defScope s_holds_to) [] [] f fd) :
    FnG P w K mg base 5 f fd ["lets"] (spP K cl 1 false F_holds_to) :=
  def_pure Fd sc_holds_to (by decide) (fun cdv A outer s H E hr hgd => b_holds_to fx C_fault hr hgd) (fun _ _ => .inr rfl)

/-! _law_hash -/
theorem sc__law_hash : FnScope ["seed", "index", "mixed"] ["seed", "index"] (defScope s__law_hash) := ⟨rfl, rfl, rfl, by decide +kernel, rfl, by decide +kernel, by decide +kernel⟩
def M__law_hash : Vx.Env → SRes := fun ρ => ((flatE (fun ρ => (((((((getV ρ 0).bind fun d => (Out.ok (D.int 1140671)).bind fun e => mulD d e).bind fun d => (((Out.ok (D.int 27644437)).bind fun d => (getV ρ 1).bind fun e => mulD d e).bind fun d => (getV ρ 1).bind fun e => mulD d e).bind fun e => addD d e).bind fun d => ((Out.ok (D.int 131)).bind fun d => (getV ρ 1).bind fun e => mulD d e).bind fun e => addD d e).bind fun d => (Out.ok (D.int 19)).bind fun e => addD d e).bind fun d => (Out.ok []).bind fun ds => .ok (d :: ds)).bind (one1 intD)).bind fun d => (Out.ok (D.int 2147483629)).bind fun e => modD d e) ρ).fin fun d ρ => orStuck (setC ρ 2 (.sh d)) .nx).then fun ρ => ((flatE (fun ρ => ((((((getV ρ 2).bind fun d => (getV ρ 2).bind fun e => mulD d e).bind fun d => ((Out.ok (D.int 62089)).bind fun d => (getV ρ 1).bind fun e => mulD d e).bind fun e => addD d e).bind fun d => (Out.ok (D.int 32416187)).bind fun e => addD d e).bind fun d => (Out.ok []).bind fun ds => .ok (d :: ds)).bind (one1 intD)).bind fun d => (Out.ok (D.int 2147483587)).bind fun e => modD d e) ρ).fin fun d ρ => orStuck (setC ρ 2 (.sh d)) .nx).then fun ρ => (flatE (fun ρ => ((((getV ρ 2).bind fun d => (Out.ok (D.int 48271)).bind fun e => mulD d e).bind fun d => (Out.ok []).bind fun ds => .ok (d :: ds)).bind (one1 intD)).bind fun d => (Out.ok (D.int 2147483647)).bind fun e => modD d e) ρ).fin fun d ρ => .rt d ρ
def F__law_hash (ds : List D) : Out D := outP false (M__law_hash (cells ds 3))
theorem b__law_hash {P : Program} {w : World} {K : PySem.W.Frag} {mg : Str → Option Value} {base : Heap} {cl : Nat → Addr} (fx : Fx K mg cl)  {f : Addr} {cdv : Value} {A : Around} {outer : List PySem.Env} {s : Shared} {H : Hp} {E : XK} (hr : Room 0 (cxOf (L2.CX P w) P w K mg base ["seed", "index", "mixed"] "_law_hash" (defScope s__law_hash) f cdv A outer s H E).A) (hgd : (cxOf (L2.CX P w) P w K mg base ["seed", "index", "mixed"] "_law_hash" (defScope s__law_hash) f cdv A outer s H E).A.guards = some []) :
    DSs (cxOf (L2.CX P w) P w K mg base ["seed", "index", "mixed"] "_law_hash" (defScope s__law_hash) f cdv A outer s H E) cl (WofE E) false (defBody s__law_hash) M__law_hash :=
  (dss_cons (ds_set 2 sc__law_hash.nd (de_flat (dp_bin bin_mod (dp_int1 fx.int_ (da_cons (dp_bin bin_add (dp_bin bin_add (dp_bin bin_add (dp_bin bin_mul (dp_var 0) dp_int) (dp_bin bin_mul (dp_bin bin_mul dp_int (dp_var 1)) (dp_var 1))) (dp_bin bin_mul dp_int (dp_var 1))) dp_int) da_nil)) dp_int))) (dss_cons (ds_set 2 sc__law_hash.nd (de_flat (dp_bin bin_mod (dp_int1 fx.int_ (da_cons (dp_bin bin_add (dp_bin bin_add (dp_bin bin_mul (dp_var 2) (dp_var 2)) (dp_bin bin_mul dp_int (dp_var 1))) dp_int) da_nil)) dp_int))) (dss_one (ds_ret (de_flat (dp_bin bin_mod (dp_int1 fx.int_ (da_cons (dp_bin bin_mul (dp_var 2) dp_int) da_nil)) dp_int))))))
theorem ok__law_hash {P : Program} {w : World} {K : PySem.W.Frag} {mg : Str → Option Value} {base : Heap} {cl : Nat → Addr} (fx : Fx K mg cl)  {f : Addr} {fd : FuncData} (Fd : FunD K "_law_hash" "_law_hash" (defArgs s__law_hash) (defBody s__law_hash) (defScope s__law_hash) [] [] f fd) :
    FnG P w K mg base 1 f fd ["seed", "index"] (spP K cl 2 false F__law_hash) :=
  def_pure Fd sc__law_hash (by decide) (fun cdv A outer s H E hr hgd => b__law_hash fx  hr hgd) (fun _ _ => .inr rfl)

/-! _law_random -/
theorem sc__law_random : FnScope ["generator", "bound", "drawn", "turn"] ["generator", "bound"] (defScope s__law_random) := ⟨rfl, rfl, rfl, by decide +kernel, rfl, by decide +kernel, by decide +kernel⟩
def fb1__law_random : Vx.Env → SRes := fun ρ => ((flatE (fun ρ => ((getV ρ 0).bind fun d => (Out.ok (D.int 2)).bind fun e => ixD d e).bind fun d => (Out.ok (D.int 1)).bind fun e => addD d e) ρ).fin fun d ρ => if isLst (getO ρ 0) = true then (flatE (fun ρ => Out.ok (D.int 2)) ρ).fin fun j ρ => setM 0 d j ρ else .stuck).then fun ρ => (flatE (fun ρ => ((getV ρ 2).bind fun d => (Out.ok (D.int 2147483587)).bind fun e => mulD d e).bind fun d => ((((getV ρ 0).bind fun d => (Out.ok (D.int 1)).bind fun e => ixD d e).bind fun d => (((getV ρ 0).bind fun d => (Out.ok (D.int 2)).bind fun e => ixD d e).bind fun d => (Out.ok []).bind fun ds => .ok (d :: ds)).bind fun ds => .ok (d :: ds)).bind fun ds => guard (decide (ds.length = 2)) (F__law_hash ds)).bind fun e => addD d e) ρ).fin fun d ρ => orStuck (setC ρ 2 (.sh d)) .nx
def M__law_random : Vx.Env → SRes := fun ρ => ((flatB (fun ρ => (((getV ρ 0).bind fun d => (Out.ok (D.int 0)).bind fun e => ixD d e).bind fun d => (Out.ok (D.int 0)).bind fun e => gtD d e).bind toB) ρ).fin fun b ρ => if b = true then (((flatE (fun ρ => ((((getV ρ 0).bind fun d => (Out.ok (D.int 0)).bind fun e => ixD d e).bind fun d => (Out.ok []).bind fun ds => .ok (d :: ds)).bind (one1 intD)).bind fun d => (getV ρ 1).bind fun e => modD d e) ρ).fin fun d ρ => orStuck (setC ρ 2 (.sh d)) .nx).then fun ρ => ((flatE (fun ρ => ((getV ρ 0).bind fun d => (Out.ok (D.int 0)).bind fun e => ixD d e).bind fun d => (getV ρ 1).bind fun e => divD d e) ρ).fin fun d ρ => if isLst (getO ρ 0) = true then (flatE (fun ρ => Out.ok (D.int 0)) ρ).fin fun j ρ => setM 0 d j ρ else .stuck).then fun ρ => (flatE (fun ρ => getV ρ 2) ρ).fin fun d ρ => .rt d ρ) else (.nx ρ)).then fun ρ => ((flatE (fun ρ => Out.ok (D.int 0)) ρ).fin fun d ρ => orStuck (setC ρ 2 (.sh d)) .nx).then fun ρ => ((flatI (fun ρ => (((Out.ok (D.int 1)).bind fun d => (((getV ρ 1).bind fun d => match d with | .int i => .ok (.int (Builtin.Int.intBits i : Nat)) | _ => .stuck).bind fun d => (Out.ok (D.int 30)).bind fun e => divD d e).bind fun e => addD d e).bind fun d => (Out.ok []).bind fun ds => .ok (d :: ds)).bind rng1) ρ).fin fun ds ρ => forL (fun d ρ => setC ρ 3 (.sh d)) fb1__law_random ds ρ).then fun ρ => (flatE (fun ρ => (((getV ρ 2).bind fun d => (Out.ok []).bind fun ds => .ok (d :: ds)).bind (one1 intD)).bind fun d => (getV ρ 1).bind fun e => modD d e) ρ).fin fun d ρ => .rt d ρ
def F__law_random (d : D) (ds : List D) : Out (D × D) := outM false (M__law_random (cellsM d ds 4))
theorem b__law_random {P : Program} {w : World} {K : PySem.W.Frag} {mg : Str → Option Value} {base : Heap} {cl : Nat → Addr} (fx : Fx K mg cl) (C__law_hash : Callee P w K mg base "_law_hash" 1 (spP K cl 2 false F__law_hash)) {f : Addr} {cdv : Value} {A : Around} {outer : List PySem.Env} {s : Shared} {H : Hp} {E : XK} (hr : Room 1 (cxOf (L2.CX P w) P w K mg base ["generator", "bound", "drawn", "turn"] "_law_random" (defScope s__law_random) f cdv A outer s H E).A) (hgd : (cxOf (L2.CX P w) P w K mg base ["generator", "bound", "drawn", "turn"] "_law_random" (defScope s__law_random) f cdv A outer s H E).A.guards = some []) :
    DSs (cxOf (L2.CX P w) P w K mg base ["generator", "bound", "drawn", "turn"] "_law_random" (defScope s__law_random) f cdv A outer s H E) cl (WofE E) false (defBody s__law_random) M__law_random :=
  (dss_cons (ds_if (db_flat (dt_cmpR cr_gt (dp_ix (dp_var 0) dp_int) dp_int)) (dss_cons (ds_set 2 sc__law_random.nd (de_flat (dp_bin bin_mod (dp_int1 fx.int_ (da_cons (dp_ix (dp_var 0) dp_int) da_nil)) (dp_var 1)))) (dss_cons (ds_setix 0 (de_flat (dp_bin bin_div (dp_ix (dp_var 0) dp_int) (dp_var 1))) (de_flat dp_int)) (dss_one (ds_ret (de_flat (dp_var 2)))))) dss_nil) (dss_cons (ds_set 2 sc__law_random.nd (de_flat dp_int)) (dss_cons (ds_for owns_cx rfl (die_range1 fx.range_ (da_cons (dp_bin bin_add dp_int (dp_bin bin_div (dp_bits (dp_var 1)) dp_int)) da_nil)) (dgc_name 3 sc__law_random.nd) (dss_cons (ds_setix 0 (de_flat (dp_bin bin_add (dp_ix (dp_var 0) dp_int) dp_int)) (de_flat dp_int)) (dss_one (ds_set 2 sc__law_random.nd (de_flat (dp_bin bin_add (dp_bin bin_mul (dp_var 2) dp_int) (dp_call C__law_hash (hr.mono (by decide)) hgd takes_cx (da_cons (dp_ix (dp_var 0) dp_int) (da_cons (dp_ix (dp_var 0) dp_int) da_nil))))))))) (dss_one (ds_ret (de_flat (dp_bin bin_mod (dp_int1 fx.int_ (da_cons (dp_var 2) da_nil)) (dp_var 1))))))))
theorem ok__law_random {P : Program} {w : World} {K : PySem.W.Frag} {mg : Str → Option Value} {base : Heap} {cl : Nat → Addr} (fx : Fx K mg cl) (C__law_hash : Callee P w K mg base "_law_hash" 1 (spP K cl 2 false F__law_hash)) {f : Addr} {fd : FuncData} (Fd : FunD K "_law_random" "_law_random" (defArgs s__law_random) (defBody s__law_random) (defScope s__law_random) [] [] f fd) :
    FnG P w K mg base 2 f fd ["generator", "bound"] (spM K cl 2 false F__law_random) :=
  def_mut Fd sc__law_random (by decide) (fun cdv A outer s H E hr hgd => b__law_random fx C__law_hash hr hgd) (fun _ _ _ => .inr rfl)

/-! _law_cell -/
theorem sc__law_cell : FnScope ["script", "index"] ["script", "index"] (defScope s__law_cell) := ⟨rfl, rfl, rfl, by decide +kernel, rfl, by decide +kernel, by decide +kernel⟩
def M__law_cell : Vx.Env → SRes := fun ρ => ((flatB (fun ρ => ((getV ρ 1).bind fun d => (((getV ρ 0).bind fun d => (Out.ok []).bind fun ds => .ok (d :: ds)).bind (one1 lenD)).bind fun e => ltD d e).bind toB) ρ).fin fun b ρ => if b = true then ((flatE (fun ρ => (getV ρ 0).bind fun d => (getV ρ 1).bind fun e => ixD d e) ρ).fin fun d ρ => .rt d ρ) else (.nx ρ)).then fun ρ => (flatE (fun ρ => ((((getV ρ 0).bind fun d => (Out.ok none).bind fun l => ((Out.ok (D.int 1)).bind toI).bind fun h => slD d l h).bind fun d => (Out.ok []).bind fun ds => .ok (d :: ds)).bind (one1 sumD)).bind fun d => (Out.ok (D.int 1000003)).bind fun e => modD d e) ρ).fin fun d ρ => .rt d ρ
def F__law_cell (ds : List D) : Out D := outP false (M__law_cell (cells ds 2))
theorem b__law_cell {P : Program} {w : World} {K : PySem.W.Frag} {mg : Str → Option Value} {base : Heap} {cl : Nat → Addr} (fx : Fx K mg cl)  {f : Addr} {cdv : Value} {A : Around} {outer : List PySem.Env} {s : Shared} {H : Hp} {E : XK} (hr : Room 0 (cxOf (L2.CX P w) P w K mg base ["script", "index"] "_law_cell" (defScope s__law_cell) f cdv A outer s H E).A) (hgd : (cxOf (L2.CX P w) P w K mg base ["script", "index"] "_law_cell" (defScope s__law_cell) f cdv A outer s H E).A.guards = some []) :
    DSs (cxOf (L2.CX P w) P w K mg base ["script", "index"] "_law_cell" (defScope s__law_cell) f cdv A outer s H E) cl (WofE E) false (defBody s__law_cell) M__law_cell :=
  (dss_cons (ds_if (db_flat (dt_cmpR cr_lt (dp_var 1) (dp_len fx.len_ (da_cons (dp_var 0) da_nil)))) (dss_one (ds_ret (de_flat (dp_ix (dp_var 0) (dp_var 1))))) dss_nil) (dss_one (ds_ret (de_flat (dp_bin bin_mod (dp_sum fx.sum_ rfl (da_cons (DN.dp (dn_slice (dp_var 0) do_none (do_some dp_int))) da_nil)) dp_int)))))
theorem ok__law_cell {P : Program} {w : World} {K : PySem.W.Frag} {mg : Str → Option Value} {base : Heap} {cl : Nat → Addr} (fx : Fx K mg cl)  {f : Addr} {fd : FuncData} (Fd : FunD K "_law_cell" "_law_cell" (defArgs s__law_cell) (defBody s__law_cell) (defScope s__law_cell) [] [] f fd) :
    FnG P w K mg base 1 f fd ["script", "index"] (spP K cl 2 false F__law_cell) :=
  def_pure Fd sc__law_cell (by decide) (fun cdv A outer s H E hr hgd => b__law_cell fx  hr hgd) (fun _ _ => .inr rfl)

/-! _law_generator -/
theorem sc__law_generator : FnScope ["script", "index", "seed"] ["script", "index"] (defScope s__law_generator) := ⟨rfl, rfl, rfl, by decide +kernel, rfl, by decide +kernel, by decide +kernel⟩
def M__law_generator : Vx.Env → SRes := fun ρ => ((flatE (fun ρ => ((getV ρ 0).bind fun d => ((getV ρ 1).bind fun d => (Out.ok []).bind fun ds => .ok (d :: ds)).bind fun ds => .ok (d :: ds)).bind fun ds => guard (decide (ds.length = 2)) (F__law_cell ds)) ρ).fin fun d ρ => orStuck (setC ρ 2 (.sh d)) .nx).then fun ρ => (frzE [] (fun ρ => ((((((((getV ρ 2).bind fun d => ((Out.ok (D.int 10)).bind fun d => (Out.ok (D.int 18)).bind fun e => powD d e).bind fun e => subD d e).bind fun d => ((Out.ok (D.int 0)).bind fun d => (Out.ok []).bind fun ds => .ok (d :: ds)).bind fun ds => .ok (d :: ds)).bind (maxD)).bind fun d => (Out.ok []).bind fun ds => .ok (d :: ds)).bind (one1 intD)).bind fun d => (((Out.ok (D.int 10)).bind fun d => (Out.ok (D.int 60)).bind fun e => powD d e).bind fun d => (Out.ok (D.int 10)).bind fun e => powD d e).bind fun e => modD d e).bind fun d => (((((getV ρ 2).bind fun d => (Out.ok []).bind fun ds => .ok (d :: ds)).bind (one1 intD)).bind fun d => (Out.ok (D.int 2147483647)).bind fun e => modD d e).bind fun d => (((Out.ok (D.int 1000)).bind fun d => (getV ρ 1).bind fun e => mulD d e).bind fun d => (Out.ok []).bind fun ds => .ok (d :: ds)).bind fun ds => .ok (d :: ds)).bind fun ds => .ok (d :: ds)).bind fun ds => guard (decide (ds.length ≤ sizeLine)) (.ok (.lst ds))) ρ).fin fun d ρ => .rt d ρ
def F__law_generator (ds : List D) : Out D := outP true (M__law_generator (cells ds 3))
theorem b__law_generator {P : Program} {w : World} {K : PySem.W.Frag} {mg : Str → Option Value} {base : Heap} {cl : Nat → Addr} (fx : Fx K mg cl) (C__law_cell : Callee P w K mg base "_law_cell" 1 (spP K cl 2 false F__law_cell)) {f : Addr} {cdv : Value} {A : Around} {outer : List PySem.Env} {s : Shared} {H : Hp} {E : XK} (hr : Room 1 (cxOf (L2.CX P w) P w K mg base ["script", "index", "seed"] "_law_generator" (defScope s__law_generator) f cdv A outer s H E).A) (hgd : (cxOf (L2.CX P w) P w K mg base ["script", "index", "seed"] "_law_generator" (defScope s__law_generator) f cdv A outer s H E).A.guards = some []) :
    DSs (cxOf (L2.CX P w) P w K mg base ["script", "index", "seed"] "_law_generator" (defScope s__law_generator) f cdv A outer s H E) cl (WofE E) true (defBody s__law_generator) M__law_generator :=
  (dss_cons (ds_set 2 sc__law_generator.nd (de_flat (dp_call C__law_cell (hr.mono (by decide)) hgd takes_cx (da_cons (dp_var 0) (da_cons (dp_var 1) da_nil))))) (dss_one (ds_retF (df_frz [] (dn_lst (da_cons (dp_bin bin_mod (dp_int1 fx.int_ (da_cons (dp_max fx.max_ rfl (da_cons (dp_bin bin_sub (dp_var 2) (dp_bin bin_pow dp_int dp_int)) (da_cons dp_int da_nil))) da_nil)) (dp_bin bin_pow (dp_bin bin_pow dp_int dp_int) dp_int)) (da_cons (dp_bin bin_mod (dp_int1 fx.int_ (da_cons (dp_var 2) da_nil)) dp_int) (da_cons (dp_bin bin_mul dp_int (dp_var 1)) da_nil))))))))
theorem ok__law_generator {P : Program} {w : World} {K : PySem.W.Frag} {mg : Str → Option Value} {base : Heap} {cl : Nat → Addr} (fx : Fx K mg cl) (C__law_cell : Callee P w K mg base "_law_cell" 1 (spP K cl 2 false F__law_cell)) {f : Addr} {fd : FuncData} (Fd : FunD K "_law_generator" "_law_generator" (defArgs s__law_generator) (defBody s__law_generator) (defScope s__law_generator) [] [] f fd) :
    FnG P w K mg base 2 f fd ["script", "index"] (spP K cl 2 true F__law_generator) :=
  def_pure Fd sc__law_generator (by decide) (fun cdv A outer s H E hr hgd => b__law_generator fx C__law_cell hr hgd) (fun _ _ => .inr rfl)

/-! _law_in -/
theorem sc__law_in : FnScope ["told", "number", "numbers", "start"] ["told", "number"] (defScope s__law_in) := ⟨rfl, rfl, rfl, by decide +kernel, rfl, by decide +kernel, by decide +kernel⟩
def M__law_in : Vx.Env → SRes := fun ρ => ((frzE [] (fun ρ => getV ρ 0) ρ).fin fun d ρ => orStuck ((fun d ρ => match d with | .tup ds => if ds.length = 2 then (fun ds ρ => match ds with | d :: ds => ((fun d ρ => setC ρ 2 (.sh d)) d ρ).bind fun ρ => (fun ds ρ => match ds with | d :: ds => ((fun d ρ => setC ρ 3 (.sh d)) d ρ).bind fun ρ => (fun ds ρ => match ds with | [] => some ρ | _ => none) ds ρ | [] => none) ds ρ | [] => none) ds ρ else none | _ => none) d ρ) .nx).then fun ρ => (flatE (fun ρ => (((getV ρ 1).bind fun d => (getV ρ 2).bind fun e => inD d e).bind toB).bind fun c => if c = true then .ok (.bl true) else ((((getV ρ 3).bind fun d => .ok (.bl (!isNon d))).bind toB).bind fun c => if c = true then ((getV ρ 1).bind fun d => (getV ρ 3).bind fun e => geD d e) else .ok (.bl false))) ρ).fin fun d ρ => .rt d ρ
def F__law_in (ds : List D) : Out D := outP false (M__law_in (cells ds 4))
theorem b__law_in {P : Program} {w : World} {K : PySem.W.Frag} {mg : Str → Option Value} {base : Heap} {cl : Nat → Addr} (fx : Fx K mg cl)  {f : Addr} {cdv : Value} {A : Around} {outer : List PySem.Env} {s : Shared} {H : Hp} {E : XK} (hr : Room 0 (cxOf (L2.CX P w) P w K mg base ["told", "number", "numbers", "start"] "_law_in" (defScope s__law_in) f cdv A outer s H E).A) (hgd : (cxOf (L2.CX P w) P w K mg base ["told", "number", "numbers", "start"] "_law_in" (defScope s__law_in) f cdv A outer s H E).A.guards = some []) :
    DSs (cxOf (L2.CX P w) P w K mg base ["told", "number", "numbers", "start"] "_law_in" (defScope s__law_in) f cdv A outer s H E) cl (WofE E) false (defBody s__law_in) M__law_in :=
  (dss_cons (ds_asg (dgc_tup rfl (dgcs_cons (dgc_name 2 sc__law_in.nd) (dgcs_cons (dgc_name 3 sc__law_in.nd) dgcs_nil))) (de_frz [] (dp_var 0))) (dss_one (ds_ret (de_flat (dp_or (dp_cmpR (cr_in hr) (dp_var 1) (dp_var 2)) (dp_one (dp_and (dp_notN (dp_var 3)) (dp_one (dp_cmpR cr_ge (dp_var 1) (dp_var 3))))))))))
theorem ok__law_in {P : Program} {w : World} {K : PySem.W.Frag} {mg : Str → Option Value} {base : Heap} {cl : Nat → Addr} (fx : Fx K mg cl)  {f : Addr} {fd : FuncData} (Fd : FunD K "_law_in" "_law_in" (defArgs s__law_in) (defBody s__law_in) (defScope s__law_in) [] [] f fd) :
    FnG P w K mg base 1 f fd ["told", "number"] (spP K cl 2 false F__law_in) :=
  def_pure Fd sc__law_in (by decide) (fun cdv A outer s H E hr hgd => b__law_in fx  hr hgd) (fun _ _ => .inr rfl)

/-! _law_set -/
theorem sc__law_set : FnScope ["generator", "most", "numbers", "number"] ["generator", "most"] (defScope s__law_set) := ⟨rfl, rfl, rfl, by decide +kernel, rfl, by decide +kernel, by decide +kernel⟩
def le1__law_set : Vx.Env → Res D := fun ρ => lcE (fun ρ => flatI (fun ρ => ((Out.ok (D.int 1)).bind fun d => (((getV ρ 1).bind fun d => (Out.ok (D.int 1)).bind fun e => addD d e).bind fun d => (Out.ok []).bind fun ds => .ok (d :: ds)).bind fun ds => .ok (d :: ds)).bind rng2) ρ) (fun d ρ => setC ρ 3 (.sh d)) (fun ρ => ((if (getO ρ 0).isSome = true then ((flatE (fun ρ => Out.ok (D.int 3)) ρ).bind fun d ρ => (Res.ok [] ρ).bind fun ds ρ => .ok (d :: ds) ρ).bind fun ds ρ => callM 2 0 F__law_random ds ρ else .stuck).bind fun d ρ => (flatE (fun ρ => Out.ok (D.int 0)) ρ).bind fun e ρ => liftO (eqD d e) ρ).bind toBE) (fun ρ => flatE (fun ρ => getV ρ 3) ρ) [3] ρ
def M__law_set : Vx.Env → SRes := fun ρ => ((le1__law_set ρ).fin fun d ρ => orStuck (setC ρ 2 (.ow d)) .nx).then fun ρ => (((frzE [2] (fun ρ => getV ρ 2) ρ).bind fun d ρ => (((((if (getO ρ 0).isSome = true then ((flatE (fun ρ => Out.ok (D.int 3)) ρ).bind fun d ρ => (Res.ok [] ρ).bind fun ds ρ => .ok (d :: ds) ρ).bind fun ds ρ => callM 2 0 F__law_random ds ρ else .stuck).bind fun d ρ => (flatE (fun ρ => Out.ok (D.int 0)) ρ).bind fun e ρ => liftO (gtD d e) ρ).bind toBE).bind fun c ρ => if c = true then (flatE (fun ρ => Out.ok D.non) ρ) else ((flatE (fun ρ => Out.ok (D.int 1)) ρ).bind fun d ρ => (if (getO ρ 0).isSome = true then ((flatE (fun ρ => (getV ρ 1).bind fun d => (Out.ok (D.int 2)).bind fun e => addD d e) ρ).bind fun d ρ => (Res.ok [] ρ).bind fun ds ρ => .ok (d :: ds) ρ).bind fun ds ρ => callM 2 0 F__law_random ds ρ else .stuck).bind fun e ρ => liftO (addD d e) ρ)).bind fun d ρ => (Res.ok [] ρ).bind fun ds ρ => .ok (d :: ds) ρ).bind fun ds ρ => .ok (d :: ds) ρ).bind fun ds ρ => liftO (guard (decide (ds.length ≤ sizeLine)) (.ok (.tup ds))) ρ).fin fun d ρ => .rt d ρ
def F__law_set (d : D) (ds : List D) : Out (D × D) := outM false (M__law_set (cellsM d ds 4))
theorem b__law_set {P : Program} {w : World} {K : PySem.W.Frag} {mg : Str → Option Value} {base : Heap} {cl : Nat → Addr} (fx : Fx K mg cl) (C__law_random : Callee P w K mg base "_law_random" 2 (spM K cl 2 false F__law_random)) {f : Addr} {cdv : Value} {A : Around} {outer : List PySem.Env} {s : Shared} {H : Hp} {E : XK} (hr : Room 2 (cxOf (L2.CX P w) P w K mg base ["generator", "most", "numbers", "number"] "_law_set" (defScope s__law_set) f cdv A outer s H E).A) (hgd : (cxOf (L2.CX P w) P w K mg base ["generator", "most", "numbers", "number"] "_law_set" (defScope s__law_set) f cdv A outer s H E).A.guards = some []) :
    DSs (cxOf (L2.CX P w) P w K mg base ["generator", "most", "numbers", "number"] "_law_set" (defScope s__law_set) f cdv A outer s H E) cl (WofE E) false (defBody s__law_set) M__law_set :=
  (dss_cons (ds_setLc 2 (dlc_E rfl sc__law_set.nd (die_range2 fx.range_ (da_cons dp_int (da_cons (dp_bin bin_add (dp_var 1) dp_int) da_nil))) (blk_ok [("number", 3)]) (by decide) (fun s H C cs fp => (dgk_name 3 sc__law_set.nd)) (fun s H C cs fp => (dbs_one (db_cmp (cr_eq hr) (de_callM 0 C__law_random (hr.mono (by decide)) hgd takes_0 (dae_cons (de_flat dp_int) dae_nil)) (de_flat dp_int)))) (fun s H C cs fp => (de_flat (dp_var 3))))) (dss_one (ds_ret (de_tup (dae_cons (de_frz [2] (dp_var 2)) (dae_cons (de_if (db_cmp cr_gt (de_callM 0 C__law_random (hr.mono (by decide)) hgd takes_cx (dae_cons (de_flat dp_int) dae_nil)) (de_flat dp_int)) (de_flat dp_non) (de_bin bin_add (de_flat dp_int) (de_callM 0 C__law_random (hr.mono (by decide)) hgd takes_cx (dae_cons (de_flat (dp_bin bin_add (dp_var 1) dp_int)) dae_nil)))) dae_nil))))))
theorem ok__law_set {P : Program} {w : World} {K : PySem.W.Frag} {mg : Str → Option Value} {base : Heap} {cl : Nat → Addr} (fx : Fx K mg cl) (C__law_random : Callee P w K mg base "_law_random" 2 (spM K cl 2 false F__law_random)) {f : Addr} {fd : FuncData} (Fd : FunD K "_law_set" "_law_set" (defArgs s__law_set) (defBody s__law_set) (defScope s__law_set) [] [] f fd) :
    FnG P w K mg base 3 f fd ["generator", "most"] (spM K cl 2 false F__law_set) :=
  def_mut Fd sc__law_set (by decide) (fun cdv A outer s H E hr hgd => b__law_set fx C__law_random hr hgd) (fun _ _ _ => .inr rfl)

/-! _law_fault -/
theorem sc__law_fault : FnScope ["told", "most", "inside", "total", "low", "number"] ["told", "most"] (defScope s__law_fault) := ⟨rfl, rfl, rfl, by decide +kernel, rfl, by decide +kernel, by decide +kernel⟩
def lc1__law_fault : PEnv → Out D := fun ρ => lcP (fun ρ => ((Out.ok (D.int 1)).bind fun d => (((getV ρ 1).bind fun d => (Out.ok (D.int 1)).bind fun e => addD d e).bind fun d => (Out.ok []).bind fun ds => .ok (d :: ds)).bind fun ds => .ok (d :: ds)).bind rng2) (fun (d : D) (ρ : PEnv) => Out.ok (ρ.set 5 (some d))) (fun ρ => (((getV ρ 0).bind fun d => ((getV ρ 5).bind fun d => (Out.ok []).bind fun ds => .ok (d :: ds)).bind fun ds => .ok (d :: ds)).bind fun ds => guard (decide (ds.length = 2)) (F__law_in ds)).bind toB) (fun ρ => getV ρ 5) [5] ρ
def fb2__law_fault : Vx.Env → SRes := fun ρ => (flatB (fun ρ => (((getV ρ 4).bind fun d => ((getV ρ 3).bind fun d => (getV ρ 4).bind fun e => subD d e).bind fun e => leD d e).bind toB).bind fun c => if c = true then (((((getV ρ 0).bind fun d => (((getV ρ 3).bind fun d => (getV ρ 4).bind fun e => subD d e).bind fun d => (Out.ok []).bind fun ds => .ok (d :: ds)).bind fun ds => .ok (d :: ds)).bind fun ds => guard (decide (ds.length = 2)) (F__law_in ds)).bind toB).bind fun c => if c = true then (((((getV ρ 0).bind fun d => ((getV ρ 3).bind fun d => (Out.ok []).bind fun ds => .ok (d :: ds)).bind fun ds => .ok (d :: ds)).bind fun ds => guard (decide (ds.length = 2)) (F__law_in ds)).bind fun d => (((getV ρ 0).bind fun d => (((getV ρ 3).bind fun d => (Out.ok (D.int 1)).bind fun e => addD d e).bind fun d => (Out.ok []).bind fun ds => .ok (d :: ds)).bind fun ds => .ok (d :: ds)).bind fun ds => guard (decide (ds.length = 2)) (F__law_in ds)).bind fun e => neD d e).bind toB) else .ok false) else .ok false) ρ).fin fun b ρ => if b = true then ((frzE [] (fun ρ => ((getV ρ 4).bind fun d => (((getV ρ 3).bind fun d => (getV ρ 4).bind fun e => subD d e).bind fun d => (Out.ok []).bind fun ds => .ok (d :: ds)).bind fun ds => .ok (d :: ds)).bind fun ds => guard (decide (ds.length ≤ sizeLine)) (.ok (.tup ds))) ρ).fin fun d ρ => .rt d ρ) else (.nx ρ)
def fb3__law_fault : Vx.Env → SRes := fun ρ => (frzI [2] (fun ρ => (getV ρ 2).bind fun d => (itemsL d).bind .ok) ρ).fin fun ds ρ => forL (fun d ρ => setC ρ 4 (.sh d)) fb2__law_fault ds ρ
def M__law_fault : Vx.Env → SRes := fun ρ => ((frzE [] (fun ρ => lc1__law_fault ρ) ρ).fin fun d ρ => orStuck (setC ρ 2 (.ow d)) .nx).then fun ρ => ((flatI (fun ρ => ((Out.ok (D.int 2)).bind fun d => (((getV ρ 1).bind fun d => (Out.ok (D.int 1)).bind fun e => addD d e).bind fun d => (Out.ok []).bind fun ds => .ok (d :: ds)).bind fun ds => .ok (d :: ds)).bind rng2) ρ).fin fun ds ρ => forL (fun d ρ => setC ρ 3 (.sh d)) fb3__law_fault ds ρ).then fun ρ => (flatE (fun ρ => Out.ok D.non) ρ).fin fun d ρ => .rt d ρ
def F__law_fault (ds : List D) : Out D := outP false (M__law_fault (cells ds 6))
theorem b__law_fault {P : Program} {w : World} {K : PySem.W.Frag} {mg : Str → Option Value} {base : Heap} {cl : Nat → Addr} (fx : Fx K mg cl) (C__law_in : Callee P w K mg base "_law_in" 1 (spP K cl 2 false F__law_in)) {f : Addr} {cdv : Value} {A : Around} {outer : List PySem.Env} {s : Shared} {H : Hp} {E : XK} (hr : Room 1 (cxOf (L2.CX P w) P w K mg base ["told", "most", "inside", "total", "low", "number"] "_law_fault" (defScope s__law_fault) f cdv A outer s H E).A) (hgd : (cxOf (L2.CX P w) P w K mg base ["told", "most", "inside", "total", "low", "number"] "_law_fault" (defScope s__law_fault) f cdv A outer s H E).A.guards = some []) :
    DSs (cxOf (L2.CX P w) P w K mg base ["told", "most", "inside", "total", "low", "number"] "_law_fault" (defScope s__law_fault) f cdv A outer s H E) cl (WofE E) false (defBody s__law_fault) M__law_fault :=
  (dss_cons (ds_setLc 2 (dlc_frz [] rfl sc__law_fault.nd (di_range2 fx.range_ (da_cons dp_int (da_cons (dp_bin bin_add (dp_var 1) dp_int) da_nil))) (blk_ok [("number", 5)]) (by decide) (fun s H C cs fp => (dg_name 5 sc__law_fault.nd)) (fun s H C cs fp => (dts_one (dt_val (dp_call C__law_in (hr.mono (by decide)) hgd takes_0 (da_cons (dp_var 0) (da_cons (dp_var 5) da_nil)))))) (fun s H C cs fp => (dp_var 5)))) (dss_cons (ds_for owns_cx rfl (die_range2 fx.range_ (da_cons dp_int (da_cons (dp_bin bin_add (dp_var 1) dp_int) da_nil))) (dgc_name 3 sc__law_fault.nd) (dss_one (ds_for owns_cx rfl (die_frz [2] (di_list (dp_var 2))) (dgc_name 4 sc__law_fault.nd) (dss_one (ds_if (db_flat (DW.dt (dw_and (dt_cmpR cr_le (dp_var 4) (dp_bin bin_sub (dp_var 3) (dp_var 4))) (dw_and (dt_val (dp_call C__law_in (hr.mono (by decide)) hgd takes_cx (da_cons (dp_var 0) (da_cons (dp_bin bin_sub (dp_var 3) (dp_var 4)) da_nil)))) (dw_and1 (dt_cmpR (cr_ne hr) (dp_call C__law_in (hr.mono (by decide)) hgd takes_cx (da_cons (dp_var 0) (da_cons (dp_var 3) da_nil))) (dp_call C__law_in (hr.mono (by decide)) hgd takes_cx (da_cons (dp_var 0) (da_cons (dp_bin bin_add (dp_var 3) dp_int) da_nil))))))))) (dss_one (ds_ret (de_frz [] (dp_tup (da_cons (dp_var 4) (da_cons (dp_bin bin_sub (dp_var 3) (dp_var 4)) da_nil)))))) dss_nil))))) (dss_one (ds_ret (de_flat dp_non)))))
theorem ok__law_fault {P : Program} {w : World} {K : PySem.W.Frag} {mg : Str → Option Value} {base : Heap} {cl : Nat → Addr} (fx : Fx K mg cl) (C__law_in : Callee P w K mg base "_law_in" 1 (spP K cl 2 false F__law_in)) {f : Addr} {fd : FuncData} (Fd : FunD K "_law_fault" "_law_fault" (defArgs s__law_fault) (defBody s__law_fault) (defScope s__law_fault) [] [] f fd) :
    FnG P w K mg base 2 f fd ["told", "most"] (spP K cl 2 false F__law_fault) :=
  def_pure Fd sc__law_fault (by decide) (fun cdv A outer s H E hr hgd => b__law_fault fx C__law_in hr hgd) (fun _ _ => .inr rfl)

/-! _law_closed -/
theorem sc__law_closed : FnScope ["told", "most", "held", "turn", "before", "low", "high", "number"] ["told", "most"] (defScope s__law_closed) := ⟨rfl, rfl, rfl, by decide +kernel, rfl, by decide +kernel, by decide +kernel⟩
def lc1__law_closed : PEnv → Out D := fun ρ => lcP (fun ρ => (((getV ρ 1).bind fun d => (Out.ok (D.int 2)).bind fun e => addD d e).bind fun d => (Out.ok []).bind fun ds => .ok (d :: ds)).bind rng1) (fun (d : D) (ρ : PEnv) => Out.ok (ρ.set 7 (some d))) (fun ρ => .ok true) (fun ρ => ((getV ρ 0).bind fun d => ((getV ρ 7).bind fun d => (Out.ok []).bind fun ds => .ok (d :: ds)).bind fun ds => .ok (d :: ds)).bind fun ds => guard (decide (ds.length = 2)) (F__law_in ds)) [7] ρ
def fb2__law_closed : Vx.Env → SRes := fun ρ => (flatB (fun ρ => (((getV ρ 2).bind fun d => (getV ρ 5).bind fun e => ixD d e).bind toB).bind fun c => if c = true then ((((getV ρ 2).bind fun d => (getV ρ 6).bind fun e => ixD d e).bind toB).bind fun c => if c = true then ((((getV ρ 2).bind fun d => ((getV ρ 5).bind fun d => (getV ρ 6).bind fun e => addD d e).bind fun e => ixD d e).bind fun d => ((getV ρ 2).bind fun d => (((getV ρ 5).bind fun d => (getV ρ 6).bind fun e => addD d e).bind fun d => (Out.ok (D.int 1)).bind fun e => addD d e).bind fun e => ixD d e).bind fun e => neD d e).bind toB) else .ok false) else .ok false) ρ).fin fun b ρ => if b = true then ((frzE [] (fun ρ => ((Out.ok (D.bl true)).bind fun d => ((Out.ok (D.bl true)).bind fun d => (Out.ok []).bind fun ds => .ok (d :: ds)).bind fun ds => .ok (d :: ds)).bind fun ds => guard (decide (ds.length ≤ sizeLine)) (.ok (.tup ds))) ρ).fin fun d ρ => orStuck ((fun d ρ => match d with | .tup ds => if ds.length = 2 then (fun ds ρ => match ds with | d :: ds => ((setX 2 (fun ρ => (getV ρ 5).bind fun d => (getV ρ 6).bind fun e => addD d e)) d ρ).bind fun ρ => (fun ds ρ => match ds with | d :: ds => ((setX 2 (fun ρ => ((getV ρ 5).bind fun d => (getV ρ 6).bind fun e => addD d e).bind fun d => (Out.ok (D.int 1)).bind fun e => addD d e)) d ρ).bind fun ρ => (fun ds ρ => match ds with | [] => some ρ | _ => none) ds ρ | [] => none) ds ρ | [] => none) ds ρ else none | _ => none) d ρ) .nx) else (.nx ρ)
def fb3__law_closed : Vx.Env → SRes := fun ρ => (flatI (fun ρ => ((getV ρ 5).bind fun d => ((((getV ρ 1).bind fun d => (getV ρ 5).bind fun e => subD d e).bind fun d => (Out.ok (D.int 1)).bind fun e => addD d e).bind fun d => (Out.ok []).bind fun ds => .ok (d :: ds)).bind fun ds => .ok (d :: ds)).bind rng2) ρ).fin fun ds ρ => forL (fun d ρ => setC ρ 6 (.sh d)) fb2__law_closed ds ρ
def fb4__law_closed : Vx.Env → SRes := fun ρ => ((flatN (fun ρ => ((getV ρ 2).bind fun d => (Out.ok []).bind fun ds => .ok (d :: ds)).bind (one1 fun d => (seqD d).bind fun ds => .ok (.lst ds))) ρ).fin fun d ρ => orStuck (setC ρ 4 (.ow d)) .nx).then fun ρ => ((flatI (fun ρ => ((Out.ok (D.int 1)).bind fun d => ((getV ρ 1).bind fun d => (Out.ok []).bind fun ds => .ok (d :: ds)).bind fun ds => .ok (d :: ds)).bind rng2) ρ).fin fun ds ρ => forL (fun d ρ => setC ρ 5 (.sh d)) fb3__law_closed ds ρ).then fun ρ => (flatB (fun ρ => ((getV ρ 2).bind fun d => (getV ρ 4).bind fun e => eqD d e).bind toB) ρ).fin fun b ρ => if b = true then (retC 2 ρ) else (.nx ρ)
def M__law_closed : Vx.Env → SRes := fun ρ => ((frzE [] (fun ρ => lc1__law_closed ρ) ρ).fin fun d ρ => orStuck (setC ρ 2 (.ow d)) .nx).then fun ρ => ((flatI (fun ρ => ((getV ρ 1).bind fun d => (Out.ok []).bind fun ds => .ok (d :: ds)).bind rng1) ρ).fin fun ds ρ => forL (fun d ρ => setC ρ 3 (.sh d)) fb4__law_closed ds ρ).then fun ρ => retC 2 ρ
def F__law_closed (ds : List D) : Out D := outP true (M__law_closed (cells ds 8))
theorem b__law_closed {P : Program} {w : World} {K : PySem.W.Frag} {mg : Str → Option Value} {base : Heap} {cl : Nat → Addr} (fx : Fx K mg cl) (C__law_in : Callee P w K mg base "_law_in" 1 (spP K cl 2 false F__law_in)) {f : Addr} {cdv : Value} {A : Around} {outer : List PySem.Env} {s : Shared} {H : Hp} {E : XK} (hr : Room 1 (cxOf (L2.CX P w) P w K mg base ["told", "most", "held", "turn", "before", "low", "high", "number"] "_law_closed" (defScope s__law_closed) f cdv A outer s H E).A) (hgd : (cxOf (L2.CX P w) P w K mg base ["told", "most", "held", "turn", "before", "low", "high", "number"] "_law_closed" (defScope s__law_closed) f cdv A outer s H E).A.guards = some []) :
    DSs (cxOf (L2.CX P w) P w K mg base ["told", "most", "held", "turn", "before", "low", "high", "number"] "_law_closed" (defScope s__law_closed) f cdv A outer s H E) cl (WofE E) true (defBody s__law_closed) M__law_closed :=
  (dss_cons (ds_setLc 2 (dlc_frz [] rfl sc__law_closed.nd (di_range1 fx.range_ (da_cons (dp_bin bin_add (dp_var 1) dp_int) da_nil)) (blk_ok [("number", 7)]) (by decide) (fun s H C cs fp => (dg_name 7 sc__law_closed.nd)) (fun s H C cs fp => dts_nil) (fun s H C cs fp => (dp_call C__law_in (hr.mono (by decide)) hgd takes_0 (da_cons (dp_var 0) (da_cons (dp_var 7) da_nil)))))) (dss_cons (ds_for owns_cx rfl (die_range1 fx.range_ (da_cons (dp_var 1) da_nil)) (dgc_name 3 sc__law_closed.nd) (dss_cons (ds_setF 4 sc__law_closed.nd (df_flat (dn_list fx.list_ (da_cons (dp_var 2) da_nil)))) (dss_cons (ds_for owns_cx rfl (die_range2 fx.range_ (da_cons dp_int (da_cons (dp_var 1) da_nil))) (dgc_name 5 sc__law_closed.nd) (dss_one (ds_for owns_cx rfl (die_range2 fx.range_ (da_cons (dp_var 5) (da_cons (dp_bin bin_add (dp_bin bin_sub (dp_var 1) (dp_var 5)) dp_int) da_nil))) (dgc_name 6 sc__law_closed.nd) (dss_one (ds_if (db_flat (DW.dt (dw_and (dt_val (dp_ix (dp_var 2) (dp_var 5))) (dw_and (dt_val (dp_ix (dp_var 2) (dp_var 6))) (dw_and1 (dt_cmpR (cr_ne hr) (dp_ix (dp_var 2) (dp_bin bin_add (dp_var 5) (dp_var 6))) (dp_ix (dp_var 2) (dp_bin bin_add (dp_bin bin_add (dp_var 5) (dp_var 6)) dp_int)))))))) (dss_one (ds_asgX (dgx_tup rfl (dgxs_cons (dgx_ix 2 (dp_bin bin_add (dp_var 5) (dp_var 6))) (dgxs_cons (dgx_ix 2 (dp_bin bin_add (dp_bin bin_add (dp_var 5) (dp_var 6)) dp_int)) dgxs_nil))) (de_frz [] (dp_tup (da_cons dp_bl (da_cons dp_bl da_nil)))))) dss_nil))))) (dss_one (ds_if (db_flat (dt_cmpR (cr_eq hr) (dp_var 2) (dp_var 4))) (dss_one (ds_retOw 2)) dss_nil))))) (dss_one (ds_retOw 2))))
theorem ok__law_closed {P : Program} {w : World} {K : PySem.W.Frag} {mg : Str → Option Value} {base : Heap} {cl : Nat → Addr} (fx : Fx K mg cl) (C__law_in : Callee P w K mg base "_law_in" 1 (spP K cl 2 false F__law_in)) {f : Addr} {fd : FuncData} (Fd : FunD K "_law_closed" "_law_closed" (defArgs s__law_closed) (defBody s__law_closed) (defScope s__law_closed) [] [] f fd) :
    FnG P w K mg base 2 f fd ["told", "most"] (spP K cl 2 true F__law_closed) :=
  def_pure Fd sc__law_closed (by decide) (fun cdv A outer s H E hr hgd => b__law_closed fx C__law_in hr hgd) (fun _ _ => .inr rfl)

/-! _law_good_set -/
theorem sc__law_good_set : FnScope ["generator", "way", "first", "told", "held", "start", "number"] ["generator"] (defScope s__law_good_set) := ⟨rfl, rfl, rfl, by decide +kernel, rfl, by decide +kernel, by decide +kernel⟩
def le1__law_good_set : Vx.Env → Res D := fun ρ => lcE (fun ρ => flatI (fun ρ => ((getV ρ 2).bind fun d => (((Out.ok (D.int 2)).bind fun d => (getV ρ 2).bind fun e => mulD d e).bind fun d => (Out.ok []).bind fun ds => .ok (d :: ds)).bind fun ds => .ok (d :: ds)).bind rng2) ρ) (fun d ρ => setC ρ 6 (.sh d)) (fun ρ => (flatB (fun ρ => ((getV ρ 6).bind fun d => (getV ρ 2).bind fun e => eqD d e).bind toB) ρ).bind fun c ρ => if c = true then .ok true ρ else (((if (getO ρ 0).isSome = true then ((flatE (fun ρ => Out.ok (D.int 2)) ρ).bind fun d ρ => (Res.ok [] ρ).bind fun ds ρ => .ok (d :: ds) ρ).bind fun ds ρ => callM 2 0 F__law_random ds ρ else .stuck).bind fun d ρ => (flatE (fun ρ => Out.ok (D.int 0)) ρ).bind fun e ρ => liftO (eqD d e) ρ).bind toBE)) (fun ρ => flatE (fun ρ => getV ρ 6) ρ) [6] ρ
def lc2__law_good_set : PEnv → Out D := fun ρ => lcP (fun ρ => ((Out.ok (D.int 1)).bind fun d => ((Out.ok (D.int 21)).bind fun d => (Out.ok []).bind fun ds => .ok (d :: ds)).bind fun ds => .ok (d :: ds)).bind rng2) (fun (d : D) (ρ : PEnv) => Out.ok (ρ.set 6 (some d))) (fun ρ => ((getV ρ 4).bind fun d => (getV ρ 6).bind fun e => ixD d e).bind toB) (fun ρ => getV ρ 6) [6] ρ
def lc3__law_good_set : PEnv → Out D := fun ρ => lcP (fun ρ => ((Out.ok (D.int 1)).bind fun d => ((Out.ok (D.int 22)).bind fun d => (Out.ok []).bind fun ds => .ok (d :: ds)).bind fun ds => .ok (d :: ds)).bind rng2) (fun (d : D) (ρ : PEnv) => Out.ok (ρ.set 6 (some d))) (fun ρ => ((Out.ok (D.bl false)).bind fun d => ((getV ρ 4).bind fun d => ((getV ρ 6).bind toI).bind fun l => ((Out.ok (D.int 22)).bind toI).bind fun h => slD d l h).bind fun e => ninD d e).bind toB) (fun ρ => getV ρ 6) [6] ρ
def lc4__law_good_set : PEnv → Out D := fun ρ => lcP (fun ρ => ((Out.ok (D.int 1)).bind fun d => ((getV ρ 5).bind fun d => (Out.ok []).bind fun ds => .ok (d :: ds)).bind fun ds => .ok (d :: ds)).bind rng2) (fun (d : D) (ρ : PEnv) => Out.ok (ρ.set 6 (some d))) (fun ρ => ((getV ρ 4).bind fun d => (getV ρ 6).bind fun e => ixD d e).bind toB) (fun ρ => getV ρ 6) [6] ρ
def M__law_good_set : Vx.Env → SRes := fun ρ => ((if (getO ρ 0).isSome = true then ((flatE (fun ρ => Out.ok (D.int 4)) ρ).bind fun d ρ => (Res.ok [] ρ).bind fun ds ρ => .ok (d :: ds) ρ).bind fun ds ρ => callM 2 0 F__law_random ds ρ else .stuck).fin fun d ρ => orStuck (setC ρ 1 (.sh d)) .nx).then fun ρ => ((flatB (fun ρ => ((getV ρ 1).bind fun d => (Out.ok (D.int 0)).bind fun e => eqD d e).bind toB) ρ).fin fun b ρ => if b = true then ((((frzE [] (fun ρ => (Out.ok []).bind fun ds => guard (decide (ds.length ≤ sizeLine)) (.ok (.lst ds))) ρ).bind fun d ρ => (((flatE (fun ρ => Out.ok (D.int 1)) ρ).bind fun d ρ => (if (getO ρ 0).isSome = true then ((flatE (fun ρ => Out.ok (D.int 4)) ρ).bind fun d ρ => (Res.ok [] ρ).bind fun ds ρ => .ok (d :: ds) ρ).bind fun ds ρ => callM 2 0 F__law_random ds ρ else .stuck).bind fun e ρ => liftO (addD d e) ρ).bind fun d ρ => (Res.ok [] ρ).bind fun ds ρ => .ok (d :: ds) ρ).bind fun ds ρ => .ok (d :: ds) ρ).bind fun ds ρ => liftO (guard (decide (ds.length ≤ sizeLine)) (.ok (.tup ds))) ρ).fin fun d ρ => .rt d ρ) else (.nx ρ)).then fun ρ => ((flatB (fun ρ => ((getV ρ 1).bind fun d => (Out.ok (D.int 1)).bind fun e => eqD d e).bind toB) ρ).fin fun b ρ => if b = true then ((((flatE (fun ρ => Out.ok (D.int 1)) ρ).bind fun d ρ => (if (getO ρ 0).isSome = true then ((flatE (fun ρ => Out.ok (D.int 4)) ρ).bind fun d ρ => (Res.ok [] ρ).bind fun ds ρ => .ok (d :: ds) ρ).bind fun ds ρ => callM 2 0 F__law_random ds ρ else .stuck).bind fun e ρ => liftO (addD d e) ρ).fin fun d ρ => orStuck (setC ρ 2 (.sh d)) .nx).then fun ρ => (((le1__law_good_set ρ).bind fun d ρ => ((flatE (fun ρ => Out.ok D.non) ρ).bind fun d ρ => (Res.ok [] ρ).bind fun ds ρ => .ok (d :: ds) ρ).bind fun ds ρ => .ok (d :: ds) ρ).bind fun ds ρ => liftO (guard (decide (ds.length ≤ sizeLine)) (.ok (.tup ds))) ρ).fin fun d ρ => .rt d ρ) else (.nx ρ)).then fun ρ => ((if (getO ρ 0).isSome = true then ((flatE (fun ρ => Out.ok (D.int 5)) ρ).bind fun d ρ => (Res.ok [] ρ).bind fun ds ρ => .ok (d :: ds) ρ).bind fun ds ρ => callM 2 0 F__law_set ds ρ else .stuck).fin fun d ρ => orStuck (setC ρ 3 (.sh d)) .nx).then fun ρ => ((frzE [] (fun ρ => ((getV ρ 3).bind fun d => ((Out.ok (D.int 24)).bind fun d => (Out.ok []).bind fun ds => .ok (d :: ds)).bind fun ds => .ok (d :: ds)).bind fun ds => guard (decide (ds.length = 2)) (F__law_closed ds)) ρ).fin fun d ρ => orStuck (setC ρ 4 (.ow d)) .nx).then fun ρ => ((flatB (fun ρ => (((getV ρ 4).bind fun d => (Out.ok (D.int 20)).bind fun e => ixD d e).bind toB).bind fun c => .ok (!c)) ρ).fin fun b ρ => if b = true then ((frzE [4] (fun ρ => ((lc2__law_good_set ρ).bind fun d => ((Out.ok D.non).bind fun d => (Out.ok []).bind fun ds => .ok (d :: ds)).bind fun ds => .ok (d :: ds)).bind fun ds => guard (decide (ds.length ≤ sizeLine)) (.ok (.tup ds))) ρ).fin fun d ρ => .rt d ρ) else (.nx ρ)).then fun ρ => ((flatE (fun ρ => ((lc3__law_good_set ρ).bind fun d => (Out.ok []).bind fun ds => .ok (d :: ds)).bind (minD)) ρ).fin fun d ρ => orStuck (setC ρ 5 (.sh d)) .nx).then fun ρ => (frzE [4] (fun ρ => ((lc4__law_good_set ρ).bind fun d => ((getV ρ 5).bind fun d => (Out.ok []).bind fun ds => .ok (d :: ds)).bind fun ds => .ok (d :: ds)).bind fun ds => guard (decide (ds.length ≤ sizeLine)) (.ok (.tup ds))) ρ).fin fun d ρ => .rt d ρ
def F__law_good_set (d : D) (ds : List D) : Out (D × D) := outM false (M__law_good_set (cellsM d ds 7))
theorem b__law_good_set {P : Program} {w : World} {K : PySem.W.Frag} {mg : Str → Option Value} {base : Heap} {cl : Nat → Addr} (fx : Fx K mg cl) (C__law_random : Callee P w K mg base "_law_random" 2 (spM K cl 2 false F__law_random)) (C__law_set : Callee P w K mg base "_law_set" 3 (spM K cl 2 false F__law_set)) (C__law_closed : Callee P w K mg base "_law_closed" 2 (spP K cl 2 true F__law_closed)) {f : Addr} {cdv : Value} {A : Around} {outer : List PySem.Env} {s : Shared} {H : Hp} {E : XK} (hr : Room 3 (cxOf (L2.CX P w) P w K mg base ["generator", "way", "first", "told", "held", "start", "number"] "_law_good_set" (defScope s__law_good_set) f cdv A outer s H E).A) (hgd : (cxOf (L2.CX P w) P w K mg base ["generator", "way", "first", "told", "held", "start", "number"] "_law_good_set" (defScope s__law_good_set) f cdv A outer s H E).A.guards = some []) :
    DSs (cxOf (L2.CX P w) P w K mg base ["generator", "way", "first", "told", "held", "start", "number"] "_law_good_set" (defScope s__law_good_set) f cdv A outer s H E) cl (WofE E) false (defBody s__law_good_set) M__law_good_set :=
  (dss_cons (ds_set 1 sc__law_good_set.nd (de_callM 0 C__law_random (hr.mono (by decide)) hgd takes_cx (dae_cons (de_flat dp_int) dae_nil))) (dss_cons (ds_if (db_flat (dt_cmpR (cr_eq hr) (dp_var 1) dp_int)) (dss_one (ds_ret (de_tup (dae_cons (de_frz [] (DN.dp (dn_lst da_nil))) (dae_cons (de_bin bin_add (de_flat dp_int) (de_callM 0 C__law_random (hr.mono (by decide)) hgd takes_cx (dae_cons (de_flat dp_int) dae_nil))) dae_nil))))) dss_nil) (dss_cons (ds_if (db_flat (dt_cmpR (cr_eq hr) (dp_var 1) dp_int)) (dss_cons (ds_set 2 sc__law_good_set.nd (de_bin bin_add (de_flat dp_int) (de_callM 0 C__law_random (hr.mono (by decide)) hgd takes_cx (dae_cons (de_flat dp_int) dae_nil)))) (dss_one (ds_ret (de_tup (dae_cons (DF.de (DLc.df (dlc_E rfl sc__law_good_set.nd (die_range2 fx.range_ (da_cons (dp_var 2) (da_cons (dp_bin bin_mul dp_int (dp_var 2)) da_nil))) (blk_ok [("number", 6)]) (by decide) (fun s H C cs fp => (dgk_name 6 sc__law_good_set.nd)) (fun s H C cs fp => (dbs_one (DBW.db (dbw_or (db_flat (dt_cmpR (cr_eq hr) (dp_var 6) (dp_var 2))) (dbw_or1 (db_cmp (cr_eq hr) (de_callM 0 C__law_random (hr.mono (by decide)) hgd takes_0 (dae_cons (de_flat dp_int) dae_nil)) (de_flat dp_int))))))) (fun s H C cs fp => (de_flat (dp_var 6)))))) (dae_cons (de_flat dp_non) dae_nil)))))) dss_nil) (dss_cons (ds_set 3 sc__law_good_set.nd (de_callM 0 C__law_set (hr.mono (by decide)) hgd takes_cx (dae_cons (de_flat dp_int) dae_nil))) (dss_cons (ds_setF 4 sc__law_good_set.nd (df_frz [] (dn_call C__law_closed (hr.mono (by decide)) hgd takes_cx (da_cons (dp_var 3) (da_cons dp_int da_nil))))) (dss_cons (ds_if (db_flat (dt_not (dt_val (dp_ix (dp_var 4) dp_int)))) (dss_one (ds_ret (de_frz [4] (dp_tup (da_cons (DN.dp (dn_lc' rfl sc__law_good_set.nd (di_range2 fx.range_ (da_cons dp_int (da_cons dp_int da_nil))) (blk_ok [("number", 6)]) (by decide) (fun s H C cs fp => (dg_name 6 sc__law_good_set.nd)) (fun s H C cs fp => (dts_one (dt_val (dp_ix (dp_var 4) (dp_var 6))))) (fun s H C cs fp => (dp_var 6)))) (da_cons dp_non da_nil)))))) dss_nil) (dss_cons (ds_set 5 sc__law_good_set.nd (de_flat (dp_min fx.min_ rfl (da_cons (DN.dp (dn_lc' rfl sc__law_good_set.nd (di_range2 fx.range_ (da_cons dp_int (da_cons dp_int da_nil))) (blk_ok [("number", 6)]) (by decide) (fun s H C cs fp => (dg_name 6 sc__law_good_set.nd)) (fun s H C cs fp => (dts_one (dt_cmpR (cr_nin hr) dp_bl (DN.dp (dn_slice (dp_var 4) (do_some (dp_var 6)) (do_some dp_int)))))) (fun s H C cs fp => (dp_var 6)))) da_nil)))) (dss_one (ds_ret (de_frz [4] (dp_tup (da_cons (DN.dp (dn_lc' rfl sc__law_good_set.nd (di_range2 fx.range_ (da_cons dp_int (da_cons (dp_var 5) da_nil))) (blk_ok [("number", 6)]) (by decide) (fun s H C cs fp => (dg_name 6 sc__law_good_set.nd)) (fun s H C cs fp => (dts_one (dt_val (dp_ix (dp_var 4) (dp_var 6))))) (fun s H C cs fp => (dp_var 6)))) (da_cons (dp_var 5) da_nil)))))))))))))
theorem ok__law_good_set {P : Program} {w : World} {K : PySem.W.Frag} {mg : Str → Option Value} {base : Heap} {cl : Nat → Addr} (fx : Fx K mg cl) (C__law_random : Callee P w K mg base "_law_random" 2 (spM K cl 2 false F__law_random)) (C__law_set : Callee P w K mg base "_law_set" 3 (spM K cl 2 false F__law_set)) (C__law_closed : Callee P w K mg base "_law_closed" 2 (spP K cl 2 true F__law_closed)) {f : Addr} {fd : FuncData} (Fd : FunD K "_law_good_set" "_law_good_set" (defArgs s__law_good_set) (defBody s__law_good_set) (defScope s__law_good_set) [] [] f fd) :
    FnG P w K mg base 4 f fd ["generator"] (spM K cl 1 false F__law_good_set) :=
  def_mut Fd sc__law_good_set (by decide) (fun cdv A outer s H E hr hgd => b__law_good_set fx C__law_random C__law_set C__law_closed hr hgd) (fun _ _ _ => .inr rfl)

/-! _law_lean -/
theorem sc__law_lean : FnScope ["told", "most", "inside", "low", "high", "number"] ["told", "most"] (defScope s__law_lean) := ⟨rfl, rfl, rfl, by decide +kernel, rfl, by decide +kernel, by decide +kernel⟩
def lc1__law_lean : PEnv → Out D := fun ρ => lcP (fun ρ => ((Out.ok (D.int 1)).bind fun d => (((getV ρ 1).bind fun d => (Out.ok (D.int 1)).bind fun e => addD d e).bind fun d => (Out.ok []).bind fun ds => .ok (d :: ds)).bind fun ds => .ok (d :: ds)).bind rng2) (fun (d : D) (ρ : PEnv) => Out.ok (ρ.set 5 (some d))) (fun ρ => (((getV ρ 0).bind fun d => ((getV ρ 5).bind fun d => (Out.ok []).bind fun ds => .ok (d :: ds)).bind fun ds => .ok (d :: ds)).bind fun ds => guard (decide (ds.length = 2)) (F__law_in ds)).bind toB) (fun ρ => getV ρ 5) [5] ρ
def fb2__law_lean : Vx.Env → SRes := fun ρ => (flatB (fun ρ => ((((getV ρ 0).bind fun d => (((getV ρ 3).bind fun d => (getV ρ 4).bind fun e => addD d e).bind fun d => (Out.ok []).bind fun ds => .ok (d :: ds)).bind fun ds => .ok (d :: ds)).bind fun ds => guard (decide (ds.length = 2)) (F__law_in ds)).bind toB).bind fun c => if c = true then .ok true else ((((getV ρ 0).bind fun d => ((((getV ρ 3).bind fun d => (getV ρ 4).bind fun e => addD d e).bind fun d => (Out.ok (D.int 1)).bind fun e => addD d e).bind fun d => (Out.ok []).bind fun ds => .ok (d :: ds)).bind fun ds => .ok (d :: ds)).bind fun ds => guard (decide (ds.length = 2)) (F__law_in ds)).bind toB)) ρ).fin fun b ρ => if b = true then ((flatE (fun ρ => Out.ok (D.bl false)) ρ).fin fun d ρ => .rt d ρ) else (.nx ρ)
def fb3__law_lean : Vx.Env → SRes := fun ρ => (frzI [2] (fun ρ => (getV ρ 2).bind fun d => (itemsL d).bind .ok) ρ).fin fun ds ρ => forL (fun d ρ => setC ρ 4 (.sh d)) fb2__law_lean ds ρ
def M__law_lean : Vx.Env → SRes := fun ρ => ((frzE [] (fun ρ => lc1__law_lean ρ) ρ).fin fun d ρ => orStuck (setC ρ 2 (.ow d)) .nx).then fun ρ => ((frzI [2] (fun ρ => (getV ρ 2).bind fun d => (itemsL d).bind .ok) ρ).fin fun ds ρ => forL (fun d ρ => setC ρ 3 (.sh d)) fb3__law_lean ds ρ).then fun ρ => (flatE (fun ρ => Out.ok (D.bl true)) ρ).fin fun d ρ => .rt d ρ
def F__law_lean (ds : List D) : Out D := outP false (M__law_lean (cells ds 6))
theorem b__law_lean {P : Program} {w : World} {K : PySem.W.Frag} {mg : Str → Option Value} {base : Heap} {cl : Nat → Addr} (fx : Fx K mg cl) (C__law_in : Callee P w K mg base "_law_in" 1 (spP K cl 2 false F__law_in)) {f : Addr} {cdv : Value} {A : Around} {outer : List PySem.Env} {s : Shared} {H : Hp} {E : XK} (hr : Room 1 (cxOf (L2.CX P w) P w K mg base ["told", "most", "inside", "low", "high", "number"] "_law_lean" (defScope s__law_lean) f cdv A outer s H E).A) (hgd : (cxOf (L2.CX P w) P w K mg base ["told", "most", "inside", "low", "high", "number"] "_law_lean" (defScope s__law_lean) f cdv A outer s H E).A.guards = some []) :
    DSs (cxOf (L2.CX P w) P w K mg base ["told", "most", "inside", "low", "high", "number"] "_law_lean" (defScope s__law_lean) f cdv A outer s H E) cl (WofE E) false (defBody s__law_lean) M__law_lean :=
  (dss_cons (ds_setLc 2 (dlc_frz [] rfl sc__law_lean.nd (di_range2 fx.range_ (da_cons dp_int (da_cons (dp_bin bin_add (dp_var 1) dp_int) da_nil))) (blk_ok [("number", 5)]) (by decide) (fun s H C cs fp => (dg_name 5 sc__law_lean.nd)) (fun s H C cs fp => (dts_one (dt_val (dp_call C__law_in (hr.mono (by decide)) hgd takes_0 (da_cons (dp_var 0) (da_cons (dp_var 5) da_nil)))))) (fun s H C cs fp => (dp_var 5)))) (dss_cons (ds_for owns_cx rfl (die_frz [2] (di_list (dp_var 2))) (dgc_name 3 sc__law_lean.nd) (dss_one (ds_for owns_cx rfl (die_frz [2] (di_list (dp_var 2))) (dgc_name 4 sc__law_lean.nd) (dss_one (ds_if (db_flat (DW.dt (dw_or (dt_val (dp_call C__law_in (hr.mono (by decide)) hgd takes_cx (da_cons (dp_var 0) (da_cons (dp_bin bin_add (dp_var 3) (dp_var 4)) da_nil)))) (dw_or1 (dt_val (dp_call C__law_in (hr.mono (by decide)) hgd takes_cx (da_cons (dp_var 0) (da_cons (dp_bin bin_add (dp_bin bin_add (dp_var 3) (dp_var 4)) dp_int) da_nil)))))))) (dss_one (ds_ret (de_flat dp_bl))) dss_nil))))) (dss_one (ds_ret (de_flat dp_bl)))))
theorem ok__law_lean {P : Program} {w : World} {K : PySem.W.Frag} {mg : Str → Option Value} {base : Heap} {cl : Nat → Addr} (fx : Fx K mg cl) (C__law_in : Callee P w K mg base "_law_in" 1 (spP K cl 2 false F__law_in)) {f : Addr} {fd : FuncData} (Fd : FunD K "_law_lean" "_law_lean" (defArgs s__law_lean) (defBody s__law_lean) (defScope s__law_lean) [] [] f fd) :
    FnG P w K mg base 2 f fd ["told", "most"] (spP K cl 2 false F__law_lean) :=
  def_pure Fd sc__law_lean (by decide) (fun cdv A outer s H E hr hgd => b__law_lean fx C__law_in hr hgd) (fun _ _ => .inr rfl)

/-! Lets_eq -/
theorem sc_Lets_eq : FnScope ["self", "other"] ["self", "other"] (defScope s_Lets_eq) := ⟨rfl, rfl, rfl, by decide +kernel, rfl, by decide +kernel, by decide +kernel⟩
def M_Lets_eq : Vx.Env → SRes := fun ρ => ((flatB (fun ρ => (((getV ρ 1).bind (isoD 0)).bind toB).bind fun c => .ok (!c)) ρ).fin fun b ρ => if b = true then ((flatE (fun ρ => Out.ok (D.bl false)) ρ).fin fun d ρ => .rt d ρ) else (.nx ρ)).then fun ρ => (flatE (fun ρ => ((((getV ρ 0).bind fun d => methD 0 "numbers" 1 F_Lets_numbers d []).bind fun d => ((getV ρ 1).bind fun d => methD 0 "numbers" 1 F_Lets_numbers d []).bind fun e => eqD d e).bind toB).bind fun c => if c = true then (((getV ρ 0).bind (fldD 0 "_start")).bind fun d => ((getV ρ 1).bind fun d => methD 0 "start" 1 F_Lets_start d []).bind fun e => eqD d e) else .ok (.bl false)) ρ).fin fun d ρ => .rt d ρ
def F_Lets_eq (ds : List D) : Out D := outP false (M_Lets_eq (cells ds 2))
theorem b_Lets_eq {P : Program} {w : World} {K : PySem.W.Frag} {mg : Str → Option Value} {base : Heap} {cl : Nat → Addr} (fx : Fx K mg cl) (CM_Lets_numbers : CalleeM P w K mg base (cl 0) "numbers" 1 (spP K cl 1 true F_Lets_numbers)) (CM_Lets_start : CalleeM P w K mg base (cl 0) "start" 1 (spP K cl 1 false F_Lets_start)) {f : Addr} {cdv : Value} {A : Around} {outer : List PySem.Env} {s : Shared} {H : Hp} {E : XK} (hr : Room 1 (cxOf (L2.CX P w) P w K mg base ["self", "other"] "Lets.__eq__" (defScope s_Lets_eq) f cdv A outer s H E).A) (hgd : (cxOf (L2.CX P w) P w K mg base ["self", "other"] "Lets.__eq__" (defScope s_Lets_eq) f cdv A outer s H E).A.guards = some []) :
    DSs (cxOf (L2.CX P w) P w K mg base ["self", "other"] "Lets.__eq__" (defScope s_Lets_eq) f cdv A outer s H E) cl (WofE E) false (defBody s_Lets_eq) M_Lets_eq :=
  (dss_cons (ds_if (db_flat (dt_not (dt_val (dp_isOwn 0 fx.ins_Lets fx.cls_Lets fx.isinstance_ fx.glo_Lets (dp_var 1))))) (dss_one (ds_ret (de_flat dp_bl))) dss_nil) (dss_one (ds_ret (de_flat (dp_and (dp_cmpR (cr_eq hr) (DN.dp (dn_meth0 0 CM_Lets_numbers fx.cls_Lets (hr.mono (by decide)) hgd takes_cx (dp_var 0))) (DN.dp (dn_meth0 0 CM_Lets_numbers fx.cls_Lets (hr.mono (by decide)) hgd takes_cx (dp_var 1)))) (dp_one (dp_cmpR (cr_eq hr) (dp_fld 0 fx.cls_Lets fx.na_Lets__start (dp_var 0)) (dp_meth0 0 CM_Lets_start fx.cls_Lets (hr.mono (by decide)) hgd takes_cx (dp_var 1)))))))))
theorem ok_Lets_eq {P : Program} {w : World} {K : PySem.W.Frag} {mg : Str → Option Value} {base : Heap} {cl : Nat → Addr} (fx : Fx K mg cl) (CM_Lets_numbers : CalleeM P w K mg base (cl 0) "numbers" 1 (spP K cl 1 true F_Lets_numbers)) (CM_Lets_start : CalleeM P w K mg base (cl 0) "start" 1 (spP K cl 1 false F_Lets_start)) {f : Addr} {fd : FuncData} (Fd : FunD K "__eq__" "Lets.__eq__" (defArgs s_Lets_eq) (defBody s_Lets_eq) (defScope s_Lets_eq) [] [] f fd) :
    FnG P w K mg base 2 f fd ["self", "other"] (spP K cl 2 false F_Lets_eq) :=
  def_pure Fd sc_Lets_eq (by decide) (fun cdv A outer s H E hr hgd => b_Lets_eq fx CM_Lets_numbers CM_Lets_start hr hgd) (fun _ _ => .inr rfl)

/-! Lets_fill -/
theorem sc_Lets_fill : FnScope ["self", "numbers", "start", "held", "number"] ["self", "numbers", "start"] (defScope s_Lets_fill) := ⟨rfl, rfl, rfl, by decide +kernel, rfl, by decide +kernel, by decide +kernel⟩
def dc1_Lets_fill : PEnv → Out D := fun ρ => dcP (fun ρ => (getV ρ 1).bind fun d => (itemsL d).bind .ok) (fun (d : D) (ρ : PEnv) => Out.ok (ρ.set 4 (some d))) (fun ρ => ((getV ρ 2).bind fun d => .ok (isNon d)).bind fun c => if c = true then .ok true else (((getV ρ 4).bind fun d => (getV ρ 2).bind fun e => ltD d e).bind toB)) (fun ρ => getV ρ 4) (fun ρ => Out.ok (D.bl true)) [4] ρ
def wc2_Lets_fill : Vx.Env → Res Bool := fun ρ => flatB (fun ρ => ((getV ρ 2).bind fun d => .ok (!isNon d)).bind fun c => if c = true then ((((getV ρ 2).bind fun d => (Out.ok (D.int 1)).bind fun e => subD d e).bind fun d => (getV ρ 3).bind fun e => indD d e).bind toB) else .ok false) ρ
def wb3_Lets_fill : Vx.Env → SRes := fun ρ => ((flatE (fun ρ => (getV ρ 2).bind fun d => (Out.ok (D.int 1)).bind fun e => subD d e) ρ).fin fun d ρ => orStuck (setC ρ 2 (.sh d)) .nx).then fun ρ => if isDK (getO ρ 3) = true then (flatE (fun ρ => getV ρ 2) ρ).fin fun j ρ => delM 3 j ρ else .stuck
def M_Lets_fill : Vx.Env → SRes := fun ρ => ((frzE [] dc1_Lets_fill ρ).fin fun d ρ => orStuck (setC ρ 3 (.ow d)) .nx).then fun ρ => (whileL wc2_Lets_fill wb3_Lets_fill ((fun ρ => match getO ρ 3 with | some (.dK ds) => ds.length + 1 | _ => 0) ρ) ρ).then fun ρ => (frzE [3] (fun ρ => ((getV ρ 3).bind fun d => ((getV ρ 2).bind fun d => (Out.ok []).bind fun ds => .ok (d :: ds)).bind fun ds => .ok (d :: ds)).bind fun ds => guard (decide (ds.length ≤ sizeLine)) (.ok (.tup ds))) ρ).fin fun d ρ => orStuck ((fun d ρ => match d with | .tup ds => if ds.length = 2 then (fun ds ρ => match ds with | d :: ds => ((setF 0 0 "_held") d ρ).bind fun ρ => (fun ds ρ => match ds with | d :: ds => ((setF 0 0 "_start") d ρ).bind fun ρ => (fun ds ρ => match ds with | [] => some ρ | _ => none) ds ρ | [] => none) ds ρ | [] => none) ds ρ else none | _ => none) d ρ) .nx
def F_Lets_fill (d : D) (ds : List D) : Out (D × D) := outM false (M_Lets_fill (cellsM d ds 5))
theorem b_Lets_fill {P : Program} {w : World} {K : PySem.W.Frag} {mg : Str → Option Value} {base : Heap} {cl : Nat → Addr} (fx : Fx K mg cl)  {f : Addr} {cdv : Value} {A : Around} {outer : List PySem.Env} {s : Shared} {H : Hp} {E : XK} (hr : Room 0 (cxOf (L2.CX P w) P w K mg base ["self", "numbers", "start", "held", "number"] "Lets._fill" (defScope s_Lets_fill) f cdv A outer s H E).A) (hgd : (cxOf (L2.CX P w) P w K mg base ["self", "numbers", "start", "held", "number"] "Lets._fill" (defScope s_Lets_fill) f cdv A outer s H E).A.guards = some []) :
    DSs (cxOf (L2.CX P w) P w K mg base ["self", "numbers", "start", "held", "number"] "Lets._fill" (defScope s_Lets_fill) f cdv A outer s H E) cl (WofE E) false (defBody s_Lets_fill) M_Lets_fill :=
  (dss_cons (ds_setLc 3 (ddc_frz [] rfl sc_Lets_fill.nd (di_list (dp_var 1)) (blk_ok [("number", 4)]) (by decide) (fun s H C cs fp => (dg_name 4 sc_Lets_fill.nd)) (fun s H C cs fp => (dts_one (DW.dt (dw_or (dt_isN (dp_var 2)) (dw_or1 (dt_cmpR cr_lt (dp_var 4) (dp_var 2))))))) (fun s H C cs fp => (dp_var 4)) (fun s H C cs fp => dp_bl)) (hs := swD_true rfl rfl rfl rfl)) (dss_cons (ds_while (fun ρ => match getO ρ 3 with | some (.dK ds) => ds.length + 1 | _ => 0) owns_cx (db_flat (DW.dt (dw_and (dt_notN (dp_var 2)) (dw_and1 (dt_cmpR (cr_ind hr) (dp_bin bin_sub (dp_var 2) dp_int) (dp_var 3)))))) (dss_cons (ds_set 2 sc_Lets_fill.nd (de_flat (dp_bin bin_sub (dp_var 2) dp_int))) (dss_one (ds_ddel 3 (de_flat (dp_var 2)))))) (dss_one (ds_asgX (dgx_tup rfl (dgxs_cons (dgx_fld 0 0 fx.cls_Lets fx.na_Lets__held) (dgxs_cons (dgx_fld 0 0 fx.cls_Lets fx.na_Lets__start) dgxs_nil))) (de_frz [3] (dp_tup (da_cons (dp_var 3) (da_cons (dp_var 2) da_nil))))))))
theorem ok_Lets_fill {P : Program} {w : World} {K : PySem.W.Frag} {mg : Str → Option Value} {base : Heap} {cl : Nat → Addr} (fx : Fx K mg cl)  {f : Addr} {fd : FuncData} (Fd : FunD K "_fill" "Lets._fill" (defArgs s_Lets_fill) (defBody s_Lets_fill) (defScope s_Lets_fill) [] [] f fd) :
    FnG P w K mg base 1 f fd ["self", "numbers", "start"] (spM K cl 3 false F_Lets_fill) :=
  def_mut Fd sc_Lets_fill (by decide) (fun cdv A outer s H E hr hgd => b_Lets_fill fx  hr hgd) (fun _ _ _ => .inr rfl)

/-! Lets_init -/
theorem sc_Lets_init : FnScope ["self", "numbers", "start", "number"] ["self", "numbers", "start"] (defScope s_Lets_init) := ⟨rfl, rfl, rfl, by decide +kernel, rfl, by decide +kernel, by decide +kernel⟩
def lc1_Lets_init : PEnv → Out D := fun ρ => lcP (fun ρ => (getV ρ 1).bind fun d => (itemsL d).bind .ok) (fun (d : D) (ρ : PEnv) => Out.ok (ρ.set 3 (some d))) (fun ρ => ((((getV ρ 3).bind fun d => ((Out.ok (D.int 1)).bind fun d => ((Out.ok (D.int 1000)).bind fun d => (Out.ok []).bind fun ds => .ok (d :: ds)).bind fun ds => .ok (d :: ds)).bind fun ds => .ok (d :: ds)).bind fun ds => guard (decide (ds.length = 3)) (F_is_between ds)).bind toB).bind fun c => .ok (!c)) (fun ρ => getV ρ 3) [3] ρ
def M_Lets_init : Vx.Env → SRes := fun ρ => ((flatB (fun ρ => ((((getV ρ 1).bind (isiD "list")).bind toB).bind fun c => .ok (!c)).bind fun c => if c = true then .ok true else (((((getV ρ 1).bind fun d => (Out.ok []).bind fun ds => .ok (d :: ds)).bind (one1 lenD)).bind fun d => (Out.ok (D.int 200)).bind fun e => gtD d e).bind toB)) ρ).fin fun b ρ => if b = true then (.stuck) else (.nx ρ)).then fun ρ => ((flatB (fun ρ => ((lc1_Lets_init ρ).bind fun d => ((Out.ok []).bind fun ds => guard (decide (ds.length ≤ sizeLine)) (.ok (.lst ds))).bind fun e => neD d e).bind toB) ρ).fin fun b ρ => if b = true then (.stuck) else (.nx ρ)).then fun ρ => ((flatB (fun ρ => ((getV ρ 2).bind fun d => .ok (!isNon d)).bind fun c => if c = true then (((((getV ρ 2).bind fun d => ((Out.ok (D.int 1)).bind fun d => ((Out.ok (D.int 1000)).bind fun d => (Out.ok []).bind fun ds => .ok (d :: ds)).bind fun ds => .ok (d :: ds)).bind fun ds => .ok (d :: ds)).bind fun ds => guard (decide (ds.length = 3)) (F_is_between ds)).bind toB).bind fun c => .ok (!c)) else .ok false) ρ).fin fun b ρ => if b = true then (.stuck) else (.nx ρ)).then fun ρ => (match getO ρ 0 with | some (.ins j fs) => if j = 0 ∧ (fs.lookup ("_fill" : Str)).isNone = true then ((frzE [] (fun ρ => getV ρ 1) ρ).bind fun d ρ => ((flatE (fun ρ => getV ρ 2) ρ).bind fun d ρ => (Res.ok [] ρ).bind fun ds ρ => .ok (d :: ds) ρ).bind fun ds ρ => .ok (d :: ds) ρ).bind fun ds ρ => callM 3 0 F_Lets_fill ds ρ else .stuck | _ => .stuck).fin fun _ ρ => .nx ρ
def F_Lets_init (d : D) (ds : List D) : Out (D × D) := outM false (M_Lets_init (cellsM d ds 4))
theorem b_Lets_init {P : Program} {w : World} {K : PySem.W.Frag} {mg : Str → Option Value} {base : Heap} {cl : Nat → Addr} (fx : Fx K mg cl) (C_is_between : Callee P w K mg base "is_between" 2 (spP K cl 3 false F_is_between)) (CM_Lets_fill : CalleeM P w K mg base (cl 0) "_fill" 1 (spM K cl 3 false F_Lets_fill)) {f : Addr} {cdv : Value} {A : Around} {outer : List PySem.Env} {s : Shared} {H : Hp} {E : XK} (hr : Room 2 (cxOf (L2.CX P w) P w K mg base ["self", "numbers", "start", "number"] "Lets.__init__" (defScope s_Lets_init) f cdv A outer s H E).A) (hgd : (cxOf (L2.CX P w) P w K mg base ["self", "numbers", "start", "number"] "Lets.__init__" (defScope s_Lets_init) f cdv A outer s H E).A.guards = some []) :
    DSs (cxOf (L2.CX P w) P w K mg base ["self", "numbers", "start", "number"] "Lets.__init__" (defScope s_Lets_init) f cdv A outer s H E) cl (WofE E) false (defBody s_Lets_init) M_Lets_init :=
  (dss_cons (ds_if (db_flat (DW.dt (dw_or (dt_not (dt_val (dp_isi (T := "list") fx.isinstance_ fx.list_ (by decide +kernel) (by decide) (dp_var 1)))) (dw_or1 (dt_cmpR cr_gt (dp_len fx.len_ (da_cons (dp_var 1) da_nil)) (dp_const fx.MOST_NUMBERS_)))))) (dss_one ds_never) dss_nil) (dss_cons (ds_if (db_flat (dt_cmpR (cr_ne hr) (DN.dp (dn_lc' rfl sc_Lets_init.nd (di_list (dp_var 1)) (blk_ok [("number", 3)]) (by decide) (fun s H C cs fp => (dg_name 3 sc_Lets_init.nd)) (fun s H C cs fp => (dts_one (dt_not (dt_val (dp_call C_is_between (hr.mono (by decide)) hgd takes_0 (da_cons (dp_var 3) (da_cons dp_int (da_cons (dp_const fx.MOST_COUNT_) da_nil)))))))) (fun s H C cs fp => (dp_var 3)))) (DN.dp (dn_lst da_nil)))) (dss_one ds_never) dss_nil) (dss_cons (ds_if (db_flat (DW.dt (dw_and (dt_notN (dp_var 2)) (dw_and1 (dt_not (dt_val (dp_call C_is_between (hr.mono (by decide)) hgd takes_cx (da_cons (dp_var 2) (da_cons dp_int (da_cons (dp_const fx.MOST_COUNT_) da_nil)))))))))) (dss_one ds_never) dss_nil) (dss_one (ds_expr (de_methM 0 0 CM_Lets_fill fx.cls_Lets (hr.mono (by decide)) hgd takes_cx (dae_cons (de_frz [] (dp_var 1)) (dae_cons (de_flat (dp_var 2)) dae_nil))))))))
theorem ok_Lets_init {P : Program} {w : World} {K : PySem.W.Frag} {mg : Str → Option Value} {base : Heap} {cl : Nat → Addr} (fx : Fx K mg cl) (C_is_between : Callee P w K mg base "is_between" 2 (spP K cl 3 false F_is_between)) (CM_Lets_fill : CalleeM P w K mg base (cl 0) "_fill" 1 (spM K cl 3 false F_Lets_fill)) {f : Addr} {fd : FuncData} (Fd : FunD K "__init__" "Lets.__init__" (defArgs s_Lets_init) (defBody s_Lets_init) (defScope s_Lets_init) [V.non] [] f fd) :
    FnG P w K mg base 3 f fd ["self", "numbers", "start"] (spM K cl 3 false F_Lets_init) :=
  def_mut Fd sc_Lets_init (by decide) (fun cdv A outer s H E hr hgd => b_Lets_init fx C_is_between CM_Lets_fill hr hgd) (fun _ _ _ => .inr rfl)

/-! _law_right -/
theorem sc__law_right : FnScope ["generator", "told", "given", "lets", "due", "length", "wished"] ["generator"] (defScope s__law_right) := ⟨rfl, rfl, rfl, by decide +kernel, rfl, by decide +kernel, by decide +kernel⟩
def fb1__law_right : Vx.Env → SRes := fun ρ => ((flatE (fun ρ => (((getV ρ 4).bind fun d => .ok (.bl (isNon d))).bind toB).bind fun c => if c = true then .ok (.bl true) else ((((getV ρ 4).bind fun d => (Out.ok (D.int 0)).bind fun e => ixD d e).bind fun d => ((getV ρ 4).bind fun d => (Out.ok (D.int 1)).bind fun e => ixD d e).bind fun e => addD d e).bind fun d => ((getV ρ 5).bind fun d => (Out.ok (D.int 3)).bind fun e => subD d e).bind fun e => gtD d e)) ρ).fin fun d ρ => orStuck (setC ρ 6 (.sh d)) .nx).then fun ρ => (flatB (fun ρ => (((((((getV ρ 3).bind fun d => ((getV ρ 5).bind fun d => (Out.ok []).bind fun ds => .ok (d :: ds)).bind fun ds => .ok (d :: ds)).bind fun ds => guard (decide (ds.length = 2)) (F_good_to ds)).bind fun d => (Out.ok []).bind fun ds => .ok (d :: ds)).bind (one1 reprD)).bind fun d => (((getV ρ 6).bind fun d => (Out.ok []).bind fun ds => .ok (d :: ds)).bind (one1 reprD)).bind fun e => neD d e).bind toB).bind fun c => if c = true then .ok true else (((((getV ρ 5).bind fun d => ((getV ρ 3).bind fun d => (Out.ok []).bind fun ds => .ok (d :: ds)).bind fun ds => .ok (d :: ds)).bind fun ds => guard (decide ((perm_10 ds).length = 2)) (F_good_to (perm_10 ds))).bind fun d => (getV ρ 6).bind fun e => neD d e).bind toB)) ρ).fin fun b ρ => if b = true then ((flatE (fun ρ => Out.ok (D.bl false)) ρ).fin fun d ρ => .rt d ρ) else (.nx ρ)
def M__law_right : Vx.Env → SRes := fun ρ => ((if (getO ρ 0).isSome = true then (((frzE [] (fun ρ => ((Out.ok (D.int 4)).bind fun d => ((Out.ok (D.int 9)).bind fun d => ((Out.ok (D.int 30)).bind fun d => (Out.ok []).bind fun ds => .ok (d :: ds)).bind fun ds => .ok (d :: ds)).bind fun ds => .ok (d :: ds)).bind fun ds => guard (decide (ds.length ≤ sizeLine)) (.ok (.lst ds))) ρ).bind fun d ρ => (if (getO ρ 0).isSome = true then ((flatE (fun ρ => Out.ok (D.int 3)) ρ).bind fun d ρ => (Res.ok [] ρ).bind fun ds ρ => .ok (d :: ds) ρ).bind fun ds ρ => callM 2 0 F__law_random ds ρ else .stuck).bind fun e ρ => liftO (ixD d e) ρ).bind fun d ρ => (Res.ok [] ρ).bind fun ds ρ => .ok (d :: ds) ρ).bind fun ds ρ => callM 2 0 F__law_set ds ρ else .stuck).fin fun d ρ => orStuck (setC ρ 1 (.sh d)) .nx).then fun ρ => ((((if (getO ρ 0).isSome = true then ((flatE (fun ρ => Out.ok (D.int 3)) ρ).bind fun d ρ => (Res.ok [] ρ).bind fun ds ρ => .ok (d :: ds) ρ).bind fun ds ρ => callM 2 0 F__law_random ds ρ else .stuck).bind fun d ρ => (flatE (fun ρ => Out.ok (D.int 0)) ρ).bind fun e ρ => liftO (eqD d e) ρ).bind toBE).fin fun b ρ => if b = true then ((if (getO ρ 0).isSome = true then (Res.ok [] ρ).bind fun ds ρ => callM 1 0 F__law_good_set ds ρ else .stuck).fin fun d ρ => orStuck (setC ρ 1 (.sh d)) .nx) else (.nx ρ)).then fun ρ => (((((if (getO ρ 0).isSome = true then ((flatE (fun ρ => Out.ok (D.int 2)) ρ).bind fun d ρ => (Res.ok [] ρ).bind fun ds ρ => .ok (d :: ds) ρ).bind fun ds ρ => callM 2 0 F__law_random ds ρ else .stuck).bind fun d ρ => (flatE (fun ρ => Out.ok (D.int 0)) ρ).bind fun e ρ => liftO (eqD d e) ρ).bind toBE).bind fun c ρ => if c = true then (frzE [] (fun ρ => (((getV ρ 1).bind fun d => (Out.ok (D.int 0)).bind fun e => ixD d e).bind fun d => (itemsL d).bind fun ds => .ok (.lst ds.reverse)).bind fun d => ((getV ρ 1).bind fun d => (Out.ok (D.int 0)).bind fun e => ixD d e).bind fun e => addD d e) ρ) else (frzE [] (fun ρ => (((getV ρ 1).bind fun d => (Out.ok (D.int 0)).bind fun e => ixD d e).bind fun d => (Out.ok []).bind fun ds => .ok (d :: ds)).bind (one1 fun d => (seqD d).bind fun ds => .ok (.lst ds))) ρ)).fin fun d ρ => orStuck (setC ρ 2 (.sh d)) .nx).then fun ρ => (((frzE [] (fun ρ => ((getV ρ 2).bind fun d => (((getV ρ 1).bind fun d => (Out.ok (D.int 1)).bind fun e => ixD d e).bind fun d => (Out.ok []).bind fun ds => .ok (d :: ds)).bind fun ds => .ok (d :: ds)).bind fun ds => guard (decide (ds.length + ([] : List D).length + 1 = 3)) (makeD 0 F_Lets_init [] ds)) ρ).bind fun d ρ => ((frzE [] (fun ρ => ((getV ρ 1).bind fun d => ((Out.ok (D.int 80)).bind fun d => (Out.ok []).bind fun ds => .ok (d :: ds)).bind fun ds => .ok (d :: ds)).bind fun ds => guard (decide (ds.length = 2)) (F__law_fault ds)) ρ).bind fun d ρ => (Res.ok [] ρ).bind fun ds ρ => .ok ((false, d) :: ds) ρ).bind fun ds ρ => .ok ((true, d) :: ds) ρ).fin fun ds ρ => orStuck (storeL [3, 4] ds ρ) .nx).then fun ρ => ((flatB (fun ρ => (((((getV ρ 3).bind fun d => (Out.ok []).bind fun ds => .ok (d :: ds)).bind fun ds => guard (decide (ds.length = 1)) (F_fault ds)).bind fun d => (getV ρ 4).bind fun e => neD d e).bind toB).bind fun c => if c = true then .ok true else ((((((getV ρ 3).bind fun d => (Out.ok []).bind fun ds => .ok (d :: ds)).bind fun ds => guard (decide ((perm_0 ds).length = 1)) (F_fault (perm_0 ds))).bind fun d => (getV ρ 4).bind fun e => neD d e).bind toB).bind fun c => if c = true then .ok true else ((((((((getV ρ 3).bind fun d => (Out.ok []).bind fun ds => .ok (d :: ds)).bind fun ds => guard (decide (ds.length = 1)) (F_good ds)).bind fun d => (Out.ok []).bind fun ds => .ok (d :: ds)).bind (one1 reprD)).bind fun d => ((((getV ρ 4).bind fun d => .ok (.bl (isNon d))).bind fun d => (Out.ok []).bind fun ds => .ok (d :: ds)).bind (one1 reprD)).bind fun e => neD d e).bind toB).bind fun c => if c = true then .ok true else (((((getV ρ 3).bind fun d => (Out.ok []).bind fun ds => .ok (d :: ds)).bind fun ds => guard (decide ((perm_0 ds).length = 1)) (F_good (perm_0 ds))).bind fun d => (((getV ρ 3).bind fun d => (Out.ok []).bind fun ds => .ok (d :: ds)).bind fun ds => guard (decide (ds.length = 1)) (F_good ds)).bind fun e => neD d e).bind toB)))) ρ).fin fun b ρ => if b = true then ((flatE (fun ρ => Out.ok (D.bl false)) ρ).fin fun d ρ => .rt d ρ) else (.nx ρ)).then fun ρ => ((flatB (fun ρ => (((((((getV ρ 3).bind fun d => (Out.ok []).bind fun ds => .ok (d :: ds)).bind fun ds => guard (decide (ds.length = 1)) (F_lean ds)).bind fun d => (Out.ok []).bind fun ds => .ok (d :: ds)).bind (one1 reprD)).bind fun d => (((((getV ρ 1).bind fun d => ((Out.ok (D.int 70)).bind fun d => (Out.ok []).bind fun ds => .ok (d :: ds)).bind fun ds => .ok (d :: ds)).bind fun ds => guard (decide (ds.length = 2)) (F__law_lean ds)).bind fun d => (Out.ok []).bind fun ds => .ok (d :: ds)).bind (one1 reprD)).bind fun e => neD d e).bind toB).bind fun c => if c = true then .ok true else (((((getV ρ 3).bind fun d => (Out.ok []).bind fun ds => .ok (d :: ds)).bind fun ds => guard (decide ((perm_0 ds).length = 1)) (F_lean (perm_0 ds))).bind fun d => (((getV ρ 3).bind fun d => (Out.ok []).bind fun ds => .ok (d :: ds)).bind fun ds => guard (decide (ds.length = 1)) (F_lean ds)).bind fun e => neD d e).bind toB)) ρ).fin fun b ρ => if b = true then ((flatE (fun ρ => Out.ok (D.bl false)) ρ).fin fun d ρ => .rt d ρ) else (.nx ρ)).then fun ρ => ((flatB (fun ρ => (((((getV ρ 3).bind fun d => (Out.ok []).bind fun ds => .ok (d :: ds)).bind fun ds => guard (decide (ds.length = 1)) (F_holds_to ds)).bind fun d => (((getV ρ 4).bind fun d => .ok (isNon d)).bind fun c => if c = true then (Out.ok D.non) else ((((getV ρ 4).bind fun d => (Out.ok (D.int 0)).bind fun e => ixD d e).bind fun d => ((getV ρ 4).bind fun d => (Out.ok (D.int 1)).bind fun e => ixD d e).bind fun e => addD d e).bind fun d => (Out.ok (D.int 2)).bind fun e => addD d e)).bind fun e => neD d e).bind toB).bind fun c => if c = true then .ok true else (((((getV ρ 3).bind fun d => (Out.ok []).bind fun ds => .ok (d :: ds)).bind fun ds => guard (decide ((perm_0 ds).length = 1)) (F_holds_to (perm_0 ds))).bind fun d => (((getV ρ 3).bind fun d => (Out.ok []).bind fun ds => .ok (d :: ds)).bind fun ds => guard (decide (ds.length = 1)) (F_holds_to ds)).bind fun e => neD d e).bind toB)) ρ).fin fun b ρ => if b = true then ((flatE (fun ρ => Out.ok (D.bl false)) ρ).fin fun d ρ => .rt d ρ) else (.nx ρ)).then fun ρ => (((((flatE (fun ρ => Out.ok (D.int 0)) ρ).bind fun d ρ => ((flatE (fun ρ => Out.ok (D.int 1)) ρ).bind fun d ρ => ((flatE (fun ρ => Out.ok (D.int 2)) ρ).bind fun d ρ => ((flatE (fun ρ => Out.ok (D.int 3)) ρ).bind fun d ρ => ((flatE (fun ρ => Out.ok (D.int 4)) ρ).bind fun d ρ => ((flatE (fun ρ => Out.ok (D.int 5)) ρ).bind fun d ρ => ((flatE (fun ρ => Out.ok (D.int 6)) ρ).bind fun d ρ => ((flatE (fun ρ => Out.ok (D.int 7)) ρ).bind fun d ρ => ((flatE (fun ρ => Out.ok (D.int 9)) ρ).bind fun d ρ => ((flatE (fun ρ => Out.ok (D.int 20)) ρ).bind fun d ρ => ((flatE (fun ρ => Out.ok (D.int 63)) ρ).bind fun d ρ => ((flatE (fun ρ => Out.ok (D.int 64)) ρ).bind fun d ρ => ((flatE (fun ρ => Out.ok (D.int 300)) ρ).bind fun d ρ => (((flatE (fun ρ => Out.ok (D.int 5)) ρ).bind fun d ρ => (if (getO ρ 0).isSome = true then ((flatE (fun ρ => Out.ok (D.int 60)) ρ).bind fun d ρ => (Res.ok [] ρ).bind fun ds ρ => .ok (d :: ds) ρ).bind fun ds ρ => callM 2 0 F__law_random ds ρ else .stuck).bind fun e ρ => liftO (addD d e) ρ).bind fun d ρ => (Res.ok [] ρ).bind fun ds ρ => .ok (d :: ds) ρ).bind fun ds ρ => .ok (d :: ds) ρ).bind fun ds ρ => .ok (d :: ds) ρ).bind fun ds ρ => .ok (d :: ds) ρ).bind fun ds ρ => .ok (d :: ds) ρ).bind fun ds ρ => .ok (d :: ds) ρ).bind fun ds ρ => .ok (d :: ds) ρ).bind fun ds ρ => .ok (d :: ds) ρ).bind fun ds ρ => .ok (d :: ds) ρ).bind fun ds ρ => .ok (d :: ds) ρ).bind fun ds ρ => .ok (d :: ds) ρ).bind fun ds ρ => .ok (d :: ds) ρ).bind fun ds ρ => .ok (d :: ds) ρ).bind fun ds ρ => .ok (d :: ds) ρ).bind fun ds ρ => liftO (guard (decide (ds.length ≤ sizeLine)) (.ok (.lst ds))) ρ).bind fun d ρ => match itemsL d with | .ok ds => .ok ds ρ | _ => .stuck).fin fun ds ρ => forL (fun d ρ => setC ρ 5 (.sh d)) fb1__law_right ds ρ).then fun ρ => (flatE (fun ρ => (((((getV ρ 3).bind fun d => (Out.ok []).bind fun ds => .ok (d :: ds)).bind fun ds => guard (decide (ds.length = 1)) (F_fault ds)).bind fun d => (getV ρ 4).bind fun e => eqD d e).bind toB).bind fun c => if c = true then (((getV ρ 3).bind fun d => ((((((getV ρ 1).bind fun d => (Out.ok (D.int 0)).bind fun e => ixD d e).bind fun d => (Out.ok []).bind fun ds => .ok (d :: ds)).bind (one1 fun d => (seqD d).bind fun ds => .ok (.lst ds))).bind fun d => (((getV ρ 1).bind fun d => (Out.ok (D.int 1)).bind fun e => ixD d e).bind fun d => (Out.ok []).bind fun ds => .ok (d :: ds)).bind fun ds => .ok (d :: ds)).bind fun ds => guard (decide (ds.length + ([] : List D).length + 1 = 3)) (makeD 0 F_Lets_init [] ds)).bind fun e => eqOD 0 F_Lets_eq d e).bind fun d => (Out.ok (D.bl true)).bind fun e => isBD d e) else .ok (.bl false)) ρ).fin fun d ρ => .rt d ρ
def F__law_right (d : D) (ds : List D) : Out (D × D) := outM false (M__law_right (cellsM d ds 7))
theorem b__law_right {P : Program} {w : World} {K : PySem.W.Frag} {mg : Str → Option Value} {base : Heap} {cl : Nat → Addr} (fx : Fx K mg cl) (C__law_set : Callee P w K mg base "_law_set" 3 (spM K cl 2 false F__law_set)) (C__law_random : Callee P w K mg base "_law_random" 2 (spM K cl 2 false F__law_random)) (C__law_good_set : Callee P w K mg base "_law_good_set" 4 (spM K cl 1 false F__law_good_set)) (C__law_fault : Callee P w K mg base "_law_fault" 2 (spP K cl 2 false F__law_fault)) (C_fault : Callee P w K mg base "fault" 4 (spP K cl 1 false F_fault)) (C_good : Callee P w K mg base "good" 5 (spP K cl 1 false F_good)) (C_lean : Callee P w K mg base "lean" 4 (spP K cl 1 false F_lean)) (C__law_lean : Callee P w K mg base "_law_lean" 2 (spP K cl 2 false F__law_lean)) (C_holds_to : Callee P w K mg base "holds_to" 5 (spP K cl 1 false F_holds_to)) (C_good_to : Callee P w K mg base "good_to" 4 (spP K cl 2 false F_good_to)) (CM_Lets_eq : CalleeM P w K mg base (cl 0) "__eq__" 2 (spP K cl 2 false F_Lets_eq)) (CC_Lets_0 : CalleeC P w K mg base cl (cl 0) "Lets" 3 [] (spM K cl 3 false F_Lets_init)) (CK_fault_lets : CalleeK P w K mg base "fault" 4 ["lets"] perm_0 (spP K cl 1 false F_fault)) (CK_good_lets : CalleeK P w K mg base "good" 5 ["lets"] perm_0 (spP K cl 1 false F_good)) (CK_lean_lets : CalleeK P w K mg base "lean" 4 ["lets"] perm_0 (spP K cl 1 false F_lean)) (CK_holds_to_lets : CalleeK P w K mg base "holds_to" 5 ["lets"] perm_0 (spP K cl 1 false F_holds_to)) (CK_good_to_length_lets : CalleeK P w K mg base "good_to" 4 ["length", "lets"] perm_10 (spP K cl 2 false F_good_to)) {f : Addr} {cdv : Value} {A : Around} {outer : List PySem.Env} {s : Shared} {H : Hp} {E : XK} (hr : Room 5 (cxOf (L2.CX P w) P w K mg base ["generator", "told", "given", "lets", "due", "length", "wished"] "_law_right" (defScope s__law_right) f cdv A outer s H E).A) (hgd : (cxOf (L2.CX P w) P w K mg base ["generator", "told", "given", "lets", "due", "length", "wished"] "_law_right" (defScope s__law_right) f cdv A outer s H E).A.guards = some []) :
    DSs (cxOf (L2.CX P w) P w K mg base ["generator", "told", "given", "lets", "due", "length", "wished"] "_law_right" (defScope s__law_right) f cdv A outer s H E) cl (WofE E) false (defBody s__law_right) M__law_right :=
  (dss_cons (ds_set 1 sc__law_right.nd (de_callM 0 C__law_set (hr.mono (by decide)) hgd takes_cx (dae_cons (de_ix (de_frz [] (DN.dp (dn_lst (da_cons dp_int (da_cons dp_int (da_cons dp_int da_nil)))))) (de_callM 0 C__law_random (hr.mono (by decide)) hgd takes_cx (dae_cons (de_flat dp_int) dae_nil))) dae_nil))) (dss_cons (ds_if (db_cmp (cr_eq hr) (de_callM 0 C__law_random (hr.mono (by decide)) hgd takes_cx (dae_cons (de_flat dp_int) dae_nil)) (de_flat dp_int)) (dss_one (ds_set 1 sc__law_right.nd (de_callM 0 C__law_good_set (hr.mono (by decide)) hgd takes_cx dae_nil))) dss_nil) (dss_cons (ds_set 2 sc__law_right.nd (de_if (db_cmp (cr_eq hr) (de_callM 0 C__law_random (hr.mono (by decide)) hgd takes_cx (dae_cons (de_flat dp_int) dae_nil)) (de_flat dp_int)) (de_frz [] (dp_bin bin_add (DN.dp (dn_revL (dp_ix (dp_var 1) dp_int))) (dp_ix (dp_var 1) dp_int))) (de_frz [] (DN.dp (dn_list fx.list_ (da_cons (dp_ix (dp_var 1) dp_int) da_nil)))))) (dss_cons (ds_par2 3 4 (dkl_new (df_frz [] (dn_make 0 CC_Lets_0 (hr.mono (by decide)) hgd (dfl := []) (fun G => .nil) (da_cons (dp_var 2) (da_cons (dp_ix (dp_var 1) dp_int) da_nil)))) (dkl_old (de_frz [] (dp_call C__law_fault (hr.mono (by decide)) hgd takes_cx (da_cons (dp_var 1) (da_cons dp_int da_nil)))) dkl_nil)) (hN := sc__law_right.nd)) (dss_cons (ds_if (db_flat (DW.dt (dw_or (dt_cmpR (cr_ne hr) (dp_call C_fault (hr.mono (by decide)) hgd takes_cx (da_cons (dp_var 3) da_nil)) (dp_var 4)) (dw_or (dt_cmpR (cr_ne hr) (dp_callK CK_fault_lets (hr.mono (by decide)) hgd takes_cx perm_0_vals perm_0_rl (dq_cons (dp_var 3) dq_nil)) (dp_var 4)) (dw_or (dt_cmpR (cr_ne hr) (dp_repr hgd (by have := hr.un; omega) fx.repr_ (da_cons (dp_call C_good (hr.mono (by decide)) hgd takes_cx (da_cons (dp_var 3) da_nil)) da_nil)) (dp_repr hgd (by have := hr.un; omega) fx.repr_ (da_cons (dp_isN (dp_var 4)) da_nil))) (dw_or1 (dt_cmpR (cr_ne hr) (dp_callK CK_good_lets (hr.mono (by decide)) hgd takes_cx perm_0_vals perm_0_rl (dq_cons (dp_var 3) dq_nil)) (dp_call C_good (hr.mono (by decide)) hgd takes_cx (da_cons (dp_var 3) da_nil))))))))) (dss_one (ds_ret (de_flat dp_bl))) dss_nil) (dss_cons (ds_if (db_flat (DW.dt (dw_or (dt_cmpR (cr_ne hr) (dp_repr hgd (by have := hr.un; omega) fx.repr_ (da_cons (dp_call C_lean (hr.mono (by decide)) hgd takes_cx (da_cons (dp_var 3) da_nil)) da_nil)) (dp_repr hgd (by have := hr.un; omega) fx.repr_ (da_cons (dp_call C__law_lean (hr.mono (by decide)) hgd takes_cx (da_cons (dp_var 1) (da_cons dp_int da_nil))) da_nil))) (dw_or1 (dt_cmpR (cr_ne hr) (dp_callK CK_lean_lets (hr.mono (by decide)) hgd takes_cx perm_0_vals perm_0_rl (dq_cons (dp_var 3) dq_nil)) (dp_call C_lean (hr.mono (by decide)) hgd takes_cx (da_cons (dp_var 3) da_nil))))))) (dss_one (ds_ret (de_flat dp_bl))) dss_nil) (dss_cons (ds_if (db_flat (DW.dt (dw_or (dt_cmpR (cr_ne hr) (dp_call C_holds_to (hr.mono (by decide)) hgd takes_cx (da_cons (dp_var 3) da_nil)) (dp_if (dt_isN (dp_var 4)) dp_non (dp_bin bin_add (dp_bin bin_add (dp_ix (dp_var 4) dp_int) (dp_ix (dp_var 4) dp_int)) dp_int))) (dw_or1 (dt_cmpR (cr_ne hr) (dp_callK CK_holds_to_lets (hr.mono (by decide)) hgd takes_cx perm_0_vals perm_0_rl (dq_cons (dp_var 3) dq_nil)) (dp_call C_holds_to (hr.mono (by decide)) hgd takes_cx (da_cons (dp_var 3) da_nil))))))) (dss_one (ds_ret (de_flat dp_bl))) dss_nil) (dss_cons (ds_for owns_cx rfl (die_list (DF.de (df_lst (dae_cons (de_flat dp_int) (dae_cons (de_flat dp_int) (dae_cons (de_flat dp_int) (dae_cons (de_flat dp_int) (dae_cons (de_flat dp_int) (dae_cons (de_flat dp_int) (dae_cons (de_flat dp_int) (dae_cons (de_flat dp_int) (dae_cons (de_flat dp_int) (dae_cons (de_flat dp_int) (dae_cons (de_flat dp_int) (dae_cons (de_flat dp_int) (dae_cons (de_flat dp_int) (dae_cons (de_bin bin_add (de_flat dp_int) (de_callM 0 C__law_random (hr.mono (by decide)) hgd takes_cx (dae_cons (de_flat dp_int) dae_nil))) dae_nil))))))))))))))))) (dgc_name 5 sc__law_right.nd) (dss_cons (ds_set 6 sc__law_right.nd (de_flat (dp_or (dp_isN (dp_var 4)) (dp_one (dp_cmpR cr_gt (dp_bin bin_add (dp_ix (dp_var 4) dp_int) (dp_ix (dp_var 4) dp_int)) (dp_bin bin_sub (dp_var 5) dp_int)))))) (dss_one (ds_if (db_flat (DW.dt (dw_or (dt_cmpR (cr_ne hr) (dp_repr hgd (by have := hr.un; omega) fx.repr_ (da_cons (dp_call C_good_to (hr.mono (by decide)) hgd takes_cx (da_cons (dp_var 3) (da_cons (dp_var 5) da_nil))) da_nil)) (dp_repr hgd (by have := hr.un; omega) fx.repr_ (da_cons (dp_var 6) da_nil))) (dw_or1 (dt_cmpR (cr_ne hr) (dp_callK CK_good_to_length_lets (hr.mono (by decide)) hgd takes_cx perm_10_vals perm_10_rl (dq_cons (dp_var 5) (dq_cons (dp_var 3) dq_nil))) (dp_var 6)))))) (dss_one (ds_ret (de_flat dp_bl))) dss_nil)))) (dss_one (ds_ret (de_flat (dp_and (dp_cmpR (cr_eq hr) (dp_call C_fault (hr.mono (by decide)) hgd takes_cx (da_cons (dp_var 3) da_nil)) (dp_var 4)) (dp_one (dp_cmpR cr_isB (dp_cmpR (cr_eqO 0 CM_Lets_eq (hr.mono (by decide)) hgd) (dp_var 3) (DN.dp (dn_make 0 CC_Lets_0 (hr.mono (by decide)) hgd (dfl := []) (fun G => .nil) (da_cons (DN.dp (dn_list fx.list_ (da_cons (dp_ix (dp_var 1) dp_int) da_nil))) (da_cons (dp_ix (dp_var 1) dp_int) da_nil))))) dp_bl))))))))))))))
theorem ok__law_right {P : Program} {w : World} {K : PySem.W.Frag} {mg : Str → Option Value} {base : Heap} {cl : Nat → Addr} (fx : Fx K mg cl) (C__law_set : Callee P w K mg base "_law_set" 3 (spM K cl 2 false F__law_set)) (C__law_random : Callee P w K mg base "_law_random" 2 (spM K cl 2 false F__law_random)) (C__law_good_set : Callee P w K mg base "_law_good_set" 4 (spM K cl 1 false F__law_good_set)) (C__law_fault : Callee P w K mg base "_law_fault" 2 (spP K cl 2 false F__law_fault)) (C_fault : Callee P w K mg base "fault" 4 (spP K cl 1 false F_fault)) (C_good : Callee P w K mg base "good" 5 (spP K cl 1 false F_good)) (C_lean : Callee P w K mg base "lean" 4 (spP K cl 1 false F_lean)) (C__law_lean : Callee P w K mg base "_law_lean" 2 (spP K cl 2 false F__law_lean)) (C_holds_to : Callee P w K mg base "holds_to" 5 (spP K cl 1 false F_holds_to)) (C_good_to : Callee P w K mg base "good_to" 4 (spP K cl 2 false F_good_to)) (CM_Lets_eq : CalleeM P w K mg base (cl 0) "__eq__" 2 (spP K cl 2 false F_Lets_eq)) (CC_Lets_0 : CalleeC P w K mg base cl (cl 0) "Lets" 3 [] (spM K cl 3 false F_Lets_init)) (CK_fault_lets : CalleeK P w K mg base "fault" 4 ["lets"] perm_0 (spP K cl 1 false F_fault)) (CK_good_lets : CalleeK P w K mg base "good" 5 ["lets"] perm_0 (spP K cl 1 false F_good)) (CK_lean_lets : CalleeK P w K mg base "lean" 4 ["lets"] perm_0 (spP K cl 1 false F_lean)) (CK_holds_to_lets : CalleeK P w K mg base "holds_to" 5 ["lets"] perm_0 (spP K cl 1 false F_holds_to)) (CK_good_to_length_lets : CalleeK P w K mg base "good_to" 4 ["length", "lets"] perm_10 (spP K cl 2 false F_good_to)) {f : Addr} {fd : FuncData} (Fd : FunD K "_law_right" "_law_right" (defArgs s__law_right) (defBody s__law_right) (defScope s__law_right) [] [] f fd) :
    FnG P w K mg base 6 f fd ["generator"] (spM K cl 1 false F__law_right) :=
  def_mut Fd sc__law_right (by decide) (fun cdv A outer s H E hr hgd => b__law_right fx C__law_set C__law_random C__law_good_set C__law_fault C_fault C_good C_lean C__law_lean C_holds_to C_good_to CM_Lets_eq CC_Lets_0 CK_fault_lets CK_good_lets CK_lean_lets CK_holds_to_lets CK_good_to_length_lets hr hgd) (fun _ _ _ => .inr rfl)

/-! _law_great_set -/
theorem sc__law_great_set : FnScope ["generator", "first", "way", "many", "numbers", "steps", "most", "turn", "more"] ["generator"] (defScope s__law_great_set) := ⟨rfl, rfl, rfl, by decide +kernel, rfl, by decide +kernel, by decide +kernel⟩
def le1__law_great_set : Vx.Env → Res D := fun ρ => lcE (fun ρ => flatI (fun ρ => (((getV ρ 3).bind fun d => (Out.ok (D.int 1)).bind fun e => subD d e).bind fun d => (Out.ok []).bind fun ds => .ok (d :: ds)).bind rng1) ρ) (fun d ρ => setC ρ 7 (.sh d)) (fun ρ => .ok true ρ) (fun ρ => (flatE (fun ρ => getV ρ 1) ρ).bind fun d ρ => (if (getO ρ 0).isSome = true then ((flatE (fun ρ => getV ρ 1) ρ).bind fun d ρ => (Res.ok [] ρ).bind fun ds ρ => .ok (d :: ds) ρ).bind fun ds ρ => callM 2 0 F__law_random ds ρ else .stuck).bind fun e ρ => liftO (addD d e) ρ) [7] ρ
def lc2__law_great_set : PEnv → Out D := fun ρ => lcP (fun ρ => ((getV ρ 7).bind fun d => (Out.ok []).bind fun ds => .ok (d :: ds)).bind rng1) (fun (d : D) (ρ : PEnv) => Out.ok (ρ.set 8 (some d))) (fun ρ => .ok true) (fun ρ => ((getV ρ 7).bind fun d => (getV ρ 5).bind fun e => mulD d e).bind fun d => (getV ρ 8).bind fun e => addD d e) [8] ρ
def fb3__law_great_set : Vx.Env → SRes := fun ρ => (frzE [] (fun ρ => ((getV ρ 4).bind fun d => ((((getV ρ 7).bind fun d => (Out.ok (D.int 1)).bind fun e => gtD d e).bind fun d => (Out.ok []).bind fun ds => .ok (d :: ds)).bind (one1 intD)).bind fun e => mulD d e).bind fun d => (lc2__law_great_set ρ).bind fun e => addD d e) ρ).fin fun d ρ => orStuck (setC ρ 4 (.sh d)) .nx
def M__law_great_set : Vx.Env → SRes := fun ρ => (((flatE (fun ρ => Out.ok (D.int 1)) ρ).bind fun d ρ => (if (getO ρ 0).isSome = true then (((frzE [] (fun ρ => ((Out.ok (D.int 60)).bind fun d => ((Out.ok (D.int 330)).bind fun d => (Out.ok []).bind fun ds => .ok (d :: ds)).bind fun ds => .ok (d :: ds)).bind fun ds => guard (decide (ds.length ≤ sizeLine)) (.ok (.lst ds))) ρ).bind fun d ρ => (if (getO ρ 0).isSome = true then ((flatE (fun ρ => Out.ok (D.int 2)) ρ).bind fun d ρ => (Res.ok [] ρ).bind fun ds ρ => .ok (d :: ds) ρ).bind fun ds ρ => callM 2 0 F__law_random ds ρ else .stuck).bind fun e ρ => liftO (ixD d e) ρ).bind fun d ρ => (Res.ok [] ρ).bind fun ds ρ => .ok (d :: ds) ρ).bind fun ds ρ => callM 2 0 F__law_random ds ρ else .stuck).bind fun e ρ => liftO (addD d e) ρ).fin fun d ρ => orStuck (setC ρ 1 (.sh d)) .nx).then fun ρ => (((if (getO ρ 0).isSome = true then ((flatE (fun ρ => Out.ok (D.int 5)) ρ).bind fun d ρ => (Res.ok [] ρ).bind fun ds ρ => .ok (d :: ds) ρ).bind fun ds ρ => callM 2 0 F__law_random ds ρ else .stuck).bind fun d ρ => (((flatE (fun ρ => Out.ok (D.int 1)) ρ).bind fun d ρ => (if (getO ρ 0).isSome = true then (((frzE [] (fun ρ => ((Out.ok (D.int 6)).bind fun d => ((Out.ok (D.int 60)).bind fun d => (Out.ok []).bind fun ds => .ok (d :: ds)).bind fun ds => .ok (d :: ds)).bind fun ds => guard (decide (ds.length ≤ sizeLine)) (.ok (.lst ds))) ρ).bind fun d ρ => (if (getO ρ 0).isSome = true then ((flatE (fun ρ => Out.ok (D.int 2)) ρ).bind fun d ρ => (Res.ok [] ρ).bind fun ds ρ => .ok (d :: ds) ρ).bind fun ds ρ => callM 2 0 F__law_random ds ρ else .stuck).bind fun e ρ => liftO (ixD d e) ρ).bind fun d ρ => (Res.ok [] ρ).bind fun ds ρ => .ok (d :: ds) ρ).bind fun ds ρ => callM 2 0 F__law_random ds ρ else .stuck).bind fun e ρ => liftO (addD d e) ρ).bind fun d ρ => (Res.ok [] ρ).bind fun ds ρ => .ok ((false, d) :: ds) ρ).bind fun ds ρ => .ok ((false, d) :: ds) ρ).fin fun ds ρ => orStuck (storeL [2, 3] ds ρ) .nx).then fun ρ => (((frzE [] (fun ρ => ((getV ρ 1).bind fun d => (Out.ok []).bind fun ds => .ok (d :: ds)).bind fun ds => guard (decide (ds.length ≤ sizeLine)) (.ok (.lst ds))) ρ).bind fun d ρ => (le1__law_great_set ρ).bind fun e ρ => liftO (addD d e) ρ).fin fun d ρ => orStuck (setC ρ 4 (.sh d)) .nx).then fun ρ => ((flatB (fun ρ => ((getV ρ 2).bind fun d => (Out.ok (D.int 2)).bind fun e => ltD d e).bind toB) ρ).fin fun b ρ => if b = true then ((frzE [] (fun ρ => ((getV ρ 4).bind fun d => ((Out.ok D.non).bind fun d => (Out.ok []).bind fun ds => .ok (d :: ds)).bind fun ds => .ok (d :: ds)).bind fun ds => guard (decide (ds.length ≤ sizeLine)) (.ok (.tup ds))) ρ).fin fun d ρ => .rt d ρ) else (.nx ρ)).then fun ρ => ((flatB (fun ρ => ((getV ρ 2).bind fun d => (Out.ok (D.int 2)).bind fun e => eqD d e).bind toB) ρ).fin fun b ρ => if b = true then (((((frzE [] (fun ρ => getV ρ 4) ρ).bind fun d ρ => (((((flatE (fun ρ => Out.ok (D.int 1000)) ρ).bind fun d ρ => (((flatE (fun ρ => (Out.ok (D.int 2)).bind fun d => (getV ρ 1).bind fun e => mulD d e) ρ).bind fun d ρ => (if (getO ρ 0).isSome = true then ((flatE (fun ρ => (Out.ok (D.int 2)).bind fun d => (getV ρ 1).bind fun e => mulD d e) ρ).bind fun d ρ => (Res.ok [] ρ).bind fun ds ρ => .ok (d :: ds) ρ).bind fun ds ρ => callM 2 0 F__law_random ds ρ else .stuck).bind fun e ρ => liftO (addD d e) ρ).bind fun d ρ => (Res.ok [] ρ).bind fun ds ρ => .ok (d :: ds) ρ).bind fun ds ρ => .ok (d :: ds) ρ).bind fun ds ρ => liftO ((minD) ds) ρ).bind fun d ρ => (Res.ok [] ρ).bind fun ds ρ => .ok (d :: ds) ρ).bind fun ds ρ => liftO (guard (decide (ds.length ≤ sizeLine)) (.ok (.lst ds))) ρ).bind fun e ρ => liftO (addD d e) ρ).bind fun d ρ => ((flatE (fun ρ => Out.ok D.non) ρ).bind fun d ρ => (Res.ok [] ρ).bind fun ds ρ => .ok (d :: ds) ρ).bind fun ds ρ => .ok (d :: ds) ρ).bind fun ds ρ => liftO (guard (decide (ds.length ≤ sizeLine)) (.ok (.tup ds))) ρ).fin fun d ρ => .rt d ρ) else (.nx ρ)).then fun ρ => ((flatB (fun ρ => ((getV ρ 2).bind fun d => (Out.ok (D.int 3)).bind fun e => eqD d e).bind toB) ρ).fin fun b ρ => if b = true then ((((frzE [] (fun ρ => getV ρ 4) ρ).bind fun d ρ => ((((flatE (fun ρ => Out.ok (D.int 1000)) ρ).bind fun d ρ => (((flatE (fun ρ => (Out.ok (D.int 2)).bind fun d => (getV ρ 1).bind fun e => mulD d e) ρ).bind fun d ρ => (if (getO ρ 0).isSome = true then ((flatE (fun ρ => (Out.ok (D.int 2)).bind fun d => (getV ρ 1).bind fun e => mulD d e) ρ).bind fun d ρ => (Res.ok [] ρ).bind fun ds ρ => .ok (d :: ds) ρ).bind fun ds ρ => callM 2 0 F__law_random ds ρ else .stuck).bind fun e ρ => liftO (addD d e) ρ).bind fun d ρ => (Res.ok [] ρ).bind fun ds ρ => .ok (d :: ds) ρ).bind fun ds ρ => .ok (d :: ds) ρ).bind fun ds ρ => liftO ((minD) ds) ρ).bind fun d ρ => (Res.ok [] ρ).bind fun ds ρ => .ok (d :: ds) ρ).bind fun ds ρ => .ok (d :: ds) ρ).bind fun ds ρ => liftO (guard (decide (ds.length ≤ sizeLine)) (.ok (.tup ds))) ρ).fin fun d ρ => .rt d ρ) else (.nx ρ)).then fun ρ => (((((flatE (fun ρ => Out.ok (D.int 4)) ρ).bind fun d ρ => (if (getO ρ 0).isSome = true then ((flatE (fun ρ => Out.ok (D.int 200)) ρ).bind fun d ρ => (Res.ok [] ρ).bind fun ds ρ => .ok (d :: ds) ρ).bind fun ds ρ => callM 2 0 F__law_random ds ρ else .stuck).bind fun e ρ => liftO (addD d e) ρ).bind fun d ρ => (((flatE (fun ρ => Out.ok (D.int 1)) ρ).bind fun d ρ => (if (getO ρ 0).isSome = true then ((flatE (fun ρ => Out.ok (D.int 4)) ρ).bind fun d ρ => (Res.ok [] ρ).bind fun ds ρ => .ok (d :: ds) ρ).bind fun ds ρ => callM 2 0 F__law_random ds ρ else .stuck).bind fun e ρ => liftO (addD d e) ρ).bind fun d ρ => (Res.ok [] ρ).bind fun ds ρ => .ok (d :: ds) ρ).bind fun ds ρ => .ok (d :: ds) ρ).bind fun ds ρ => liftO (guard (decide (ds.length ≤ sizeLine)) (.ok (.tup ds))) ρ).fin fun d ρ => orStuck ((fun d ρ => match d with | .tup ds => if ds.length = 2 then (fun ds ρ => match ds with | d :: ds => ((fun d ρ => setC ρ 5 (.sh d)) d ρ).bind fun ρ => (fun ds ρ => match ds with | d :: ds => ((fun d ρ => setC ρ 6 (.sh d)) d ρ).bind fun ρ => (fun ds ρ => match ds with | [] => some ρ | _ => none) ds ρ | [] => none) ds ρ | [] => none) ds ρ else none | _ => none) d ρ) .nx).then fun ρ => ((flatI (fun ρ => ((Out.ok (D.int 1)).bind fun d => (((getV ρ 6).bind fun d => (Out.ok (D.int 1)).bind fun e => addD d e).bind fun d => (Out.ok []).bind fun ds => .ok (d :: ds)).bind fun ds => .ok (d :: ds)).bind rng2) ρ).fin fun ds ρ => forL (fun d ρ => setC ρ 7 (.sh d)) fb3__law_great_set ds ρ).then fun ρ => ((((frzE [] (fun ρ => getV ρ 4) ρ).bind fun d ρ => ((frzE [] (fun ρ => ((((getV ρ 5).bind fun d => (getV ρ 6).bind fun e => mulD d e).bind fun d => (getV ρ 6).bind fun e => addD d e).bind fun d => (Out.ok []).bind fun ds => .ok (d :: ds)).bind fun ds => guard (decide (ds.length ≤ sizeLine)) (.ok (.lst ds))) ρ).bind fun d ρ => ((((if (getO ρ 0).isSome = true then ((flatE (fun ρ => Out.ok (D.int 4)) ρ).bind fun d ρ => (Res.ok [] ρ).bind fun ds ρ => .ok (d :: ds) ρ).bind fun ds ρ => callM 2 0 F__law_random ds ρ else .stuck).bind fun d ρ => (flatE (fun ρ => Out.ok (D.int 0)) ρ).bind fun e ρ => liftO (eqD d e) ρ).bind fun d ρ => (Res.ok [] ρ).bind fun ds ρ => .ok (d :: ds) ρ).bind fun ds ρ => liftO ((one1 intD) ds) ρ).bind fun e ρ => liftO (mulD d e) ρ).bind fun e ρ => liftO (addD d e) ρ).bind fun d ρ => ((flatE (fun ρ => Out.ok D.non) ρ).bind fun d ρ => (Res.ok [] ρ).bind fun ds ρ => .ok (d :: ds) ρ).bind fun ds ρ => .ok (d :: ds) ρ).bind fun ds ρ => liftO (guard (decide (ds.length ≤ sizeLine)) (.ok (.tup ds))) ρ).fin fun d ρ => .rt d ρ
def F__law_great_set (d : D) (ds : List D) : Out (D × D) := outM false (M__law_great_set (cellsM d ds 9))
theorem b__law_great_set {P : Program} {w : World} {K : PySem.W.Frag} {mg : Str → Option Value} {base : Heap} {cl : Nat → Addr} (fx : Fx K mg cl) (C__law_random : Callee P w K mg base "_law_random" 2 (spM K cl 2 false F__law_random)) {f : Addr} {cdv : Value} {A : Around} {outer : List PySem.Env} {s : Shared} {H : Hp} {E : XK} (hr : Room 2 (cxOf (L2.CX P w) P w K mg base ["generator", "first", "way", "many", "numbers", "steps", "most", "turn", "more"] "_law_great_set" (defScope s__law_great_set) f cdv A outer s H E).A) (hgd : (cxOf (L2.CX P w) P w K mg base ["generator", "first", "way", "many", "numbers", "steps", "most", "turn", "more"] "_law_great_set" (defScope s__law_great_set) f cdv A outer s H E).A.guards = some []) :
    DSs (cxOf (L2.CX P w) P w K mg base ["generator", "first", "way", "many", "numbers", "steps", "most", "turn", "more"] "_law_great_set" (defScope s__law_great_set) f cdv A outer s H E) cl (WofE E) false (defBody s__law_great_set) M__law_great_set :=
  (dss_cons (ds_set 1 sc__law_great_set.nd (de_bin bin_add (de_flat dp_int) (de_callM 0 C__law_random (hr.mono (by decide)) hgd takes_cx (dae_cons (de_ix (de_frz [] (DN.dp (dn_lst (da_cons dp_int (da_cons dp_int da_nil))))) (de_callM 0 C__law_random (hr.mono (by decide)) hgd takes_cx (dae_cons (de_flat dp_int) dae_nil))) dae_nil)))) (dss_cons (ds_par2 2 3 (dkl_old (de_callM 0 C__law_random (hr.mono (by decide)) hgd takes_cx (dae_cons (de_flat dp_int) dae_nil)) (dkl_old (de_bin bin_add (de_flat dp_int) (de_callM 0 C__law_random (hr.mono (by decide)) hgd takes_cx (dae_cons (de_ix (de_frz [] (DN.dp (dn_lst (da_cons dp_int (da_cons dp_int da_nil))))) (de_callM 0 C__law_random (hr.mono (by decide)) hgd takes_cx (dae_cons (de_flat dp_int) dae_nil))) dae_nil))) dkl_nil)) (hN := sc__law_great_set.nd)) (dss_cons (ds_set 4 sc__law_great_set.nd (de_bin bin_add (de_frz [] (DN.dp (dn_lst (da_cons (dp_var 1) da_nil)))) (DF.de (DLc.df (dlc_E rfl sc__law_great_set.nd (die_range1 fx.range_ (da_cons (dp_bin bin_sub (dp_var 3) dp_int) da_nil)) (blk_ok [("turn", 7)]) (by decide) (fun s H C cs fp => (dgk_name 7 sc__law_great_set.nd)) (fun s H C cs fp => dbs_nil) (fun s H C cs fp => (de_bin bin_add (de_flat (dp_var 1)) (de_callM 0 C__law_random (hr.mono (by decide)) hgd takes_0 (dae_cons (de_flat (dp_var 1)) dae_nil))))))))) (dss_cons (ds_if (db_flat (dt_cmpR cr_lt (dp_var 2) dp_int)) (dss_one (ds_ret (de_frz [] (dp_tup (da_cons (dp_var 4) (da_cons dp_non da_nil)))))) dss_nil) (dss_cons (ds_if (db_flat (dt_cmpR (cr_eq hr) (dp_var 2) dp_int)) (dss_one (ds_ret (de_tup (dae_cons (de_bin bin_add (de_frz [] (dp_var 4)) (DF.de (df_lst (dae_cons (de_min fx.min_ rfl (dae_cons (de_flat dp_int) (dae_cons (de_bin bin_add (de_flat (dp_bin bin_mul dp_int (dp_var 1))) (de_callM 0 C__law_random (hr.mono (by decide)) hgd takes_cx (dae_cons (de_flat (dp_bin bin_mul dp_int (dp_var 1))) dae_nil))) dae_nil))) dae_nil)))) (dae_cons (de_flat dp_non) dae_nil))))) dss_nil) (dss_cons (ds_if (db_flat (dt_cmpR (cr_eq hr) (dp_var 2) dp_int)) (dss_one (ds_ret (de_tup (dae_cons (de_frz [] (dp_var 4)) (dae_cons (de_min fx.min_ rfl (dae_cons (de_flat dp_int) (dae_cons (de_bin bin_add (de_flat (dp_bin bin_mul dp_int (dp_var 1))) (de_callM 0 C__law_random (hr.mono (by decide)) hgd takes_cx (dae_cons (de_flat (dp_bin bin_mul dp_int (dp_var 1))) dae_nil))) dae_nil))) dae_nil))))) dss_nil) (dss_cons (ds_asg (dgc_tup rfl (dgcs_cons (dgc_name 5 sc__law_great_set.nd) (dgcs_cons (dgc_name 6 sc__law_great_set.nd) dgcs_nil))) (de_tup (dae_cons (de_bin bin_add (de_flat dp_int) (de_callM 0 C__law_random (hr.mono (by decide)) hgd takes_cx (dae_cons (de_flat dp_int) dae_nil))) (dae_cons (de_bin bin_add (de_flat dp_int) (de_callM 0 C__law_random (hr.mono (by decide)) hgd takes_cx (dae_cons (de_flat dp_int) dae_nil))) dae_nil)))) (dss_cons (ds_for owns_cx rfl (die_range2 fx.range_ (da_cons dp_int (da_cons (dp_bin bin_add (dp_var 6) dp_int) da_nil))) (dgc_name 7 sc__law_great_set.nd) (dss_one (ds_set 4 sc__law_great_set.nd (de_frz [] (dp_bin bin_add (dp_bin bin_mul (dp_var 4) (dp_int1 fx.int_ (da_cons (dp_cmpR cr_gt (dp_var 7) dp_int) da_nil))) (DN.dp (dn_lc' rfl sc__law_great_set.nd (di_range1 fx.range_ (da_cons (dp_var 7) da_nil)) (blk_ok [("more", 8)]) (by decide) (fun s H C cs fp => (dg_name 8 sc__law_great_set.nd)) (fun s H C cs fp => dts_nil) (fun s H C cs fp => (dp_bin bin_add (dp_bin bin_mul (dp_var 7) (dp_var 5)) (dp_var 8)))))))))) (dss_one (ds_ret (de_tup (dae_cons (de_bin bin_add (de_frz [] (dp_var 4)) (de_bin bin_mul (de_frz [] (DN.dp (dn_lst (da_cons (dp_bin bin_add (dp_bin bin_mul (dp_var 5) (dp_var 6)) (dp_var 6)) da_nil)))) (de_int1 fx.int_ (dae_cons (de_cmp (cr_eq hr) (de_callM 0 C__law_random (hr.mono (by decide)) hgd takes_cx (dae_cons (de_flat dp_int) dae_nil)) (de_flat dp_int)) dae_nil)))) (dae_cons (de_flat dp_non) dae_nil)))))))))))))
theorem ok__law_great_set {P : Program} {w : World} {K : PySem.W.Frag} {mg : Str → Option Value} {base : Heap} {cl : Nat → Addr} (fx : Fx K mg cl) (C__law_random : Callee P w K mg base "_law_random" 2 (spM K cl 2 false F__law_random)) {f : Addr} {fd : FuncData} (Fd : FunD K "_law_great_set" "_law_great_set" (defArgs s__law_great_set) (defBody s__law_great_set) (defScope s__law_great_set) [] [] f fd) :
    FnG P w K mg base 3 f fd ["generator"] (spM K cl 1 false F__law_great_set) :=
  def_mut Fd sc__law_great_set (by decide) (fun cdv A outer s H E hr hgd => b__law_great_set fx C__law_random hr hgd) (fun _ _ _ => .inr rfl)

/-! _law_has -/
theorem sc__law_has : FnScope ["held", "start", "number"] ["held", "start", "number"] (defScope s__law_has) := ⟨rfl, rfl, rfl, by decide +kernel, rfl, by decide +kernel, by decide +kernel⟩
def M__law_has : Vx.Env → SRes := fun ρ => (flatE (fun ρ => (((getV ρ 2).bind fun d => (getV ρ 0).bind fun e => indD d e).bind toB).bind fun c => if c = true then .ok (.bl true) else ((((getV ρ 1).bind fun d => .ok (.bl (!isNon d))).bind toB).bind fun c => if c = true then ((getV ρ 2).bind fun d => (getV ρ 1).bind fun e => geD d e) else .ok (.bl false))) ρ).fin fun d ρ => .rt d ρ
def F__law_has (ds : List D) : Out D := outP false (M__law_has (cells ds 3))
theorem b__law_has {P : Program} {w : World} {K : PySem.W.Frag} {mg : Str → Option Value} {base : Heap} {cl : Nat → Addr} (fx : Fx K mg cl)  {f : Addr} {cdv : Value} {A : Around} {outer : List PySem.Env} {s : Shared} {H : Hp} {E : XK} (hr : Room 0 (cxOf (L2.CX P w) P w K mg base ["held", "start", "number"] "_law_has" (defScope s__law_has) f cdv A outer s H E).A) (hgd : (cxOf (L2.CX P w) P w K mg base ["held", "start", "number"] "_law_has" (defScope s__law_has) f cdv A outer s H E).A.guards = some []) :
    DSs (cxOf (L2.CX P w) P w K mg base ["held", "start", "number"] "_law_has" (defScope s__law_has) f cdv A outer s H E) cl (WofE E) false (defBody s__law_has) M__law_has :=
  (dss_one (ds_ret (de_flat (dp_or (dp_cmpR (cr_ind hr) (dp_var 2) (dp_var 0)) (dp_one (dp_and (dp_notN (dp_var 1)) (dp_one (dp_cmpR cr_ge (dp_var 2) (dp_var 1)))))))))
theorem ok__law_has {P : Program} {w : World} {K : PySem.W.Frag} {mg : Str → Option Value} {base : Heap} {cl : Nat → Addr} (fx : Fx K mg cl)  {f : Addr} {fd : FuncData} (Fd : FunD K "_law_has" "_law_has" (defArgs s__law_has) (defBody s__law_has) (defScope s__law_has) [] [] f fd) :
    FnG P w K mg base 1 f fd ["held", "start", "number"] (spP K cl 3 false F__law_has) :=
  def_pure Fd sc__law_has (by decide) (fun cdv A outer s H E hr hgd => b__law_has fx  hr hgd) (fun _ _ => .inr rfl)

/-! _law_great_fault -/
theorem sc__law_great_fault : FnScope ["held", "start", "found", "low", "high", "parted"] ["held", "start"] (defScope s__law_great_fault) := ⟨rfl, rfl, rfl, by decide +kernel, rfl, by decide +kernel, by decide +kernel⟩
def fb1__law_great_fault : Vx.Env → SRes := fun ρ => ((flatE (fun ρ => (((getV ρ 3).bind fun d => (getV ρ 4).bind fun e => leD d e).bind toB).bind fun c => if c = true then ((((getV ρ 0).bind fun d => ((getV ρ 1).bind fun d => (((getV ρ 3).bind fun d => (getV ρ 4).bind fun e => addD d e).bind fun d => (Out.ok []).bind fun ds => .ok (d :: ds)).bind fun ds => .ok (d :: ds)).bind fun ds => .ok (d :: ds)).bind fun ds => guard (decide (ds.length = 3)) (F__law_has ds)).bind fun d => (((getV ρ 0).bind fun d => ((getV ρ 1).bind fun d => ((((getV ρ 3).bind fun d => (getV ρ 4).bind fun e => addD d e).bind fun d => (Out.ok (D.int 1)).bind fun e => addD d e).bind fun d => (Out.ok []).bind fun ds => .ok (d :: ds)).bind fun ds => .ok (d :: ds)).bind fun ds => .ok (d :: ds)).bind fun ds => guard (decide (ds.length = 3)) (F__law_has ds)).bind fun e => neD d e) else .ok (.bl false)) ρ).fin fun d ρ => orStuck (setC ρ 5 (.sh d)) .nx).then fun ρ => (flatB (fun ρ => ((getV ρ 5).bind toB).bind fun c => if c = true then (((getV ρ 2).bind fun d => .ok (isNon d)).bind fun c => if c = true then .ok true else ((((getV ρ 3).bind fun d => (getV ρ 4).bind fun e => addD d e).bind fun d => (((getV ρ 2).bind fun d => (Out.ok (D.int 0)).bind fun e => ixD d e).bind fun d => ((getV ρ 2).bind fun d => (Out.ok (D.int 1)).bind fun e => ixD d e).bind fun e => addD d e).bind fun e => ltD d e).bind toB)) else .ok false) ρ).fin fun b ρ => if b = true then ((frzE [] (fun ρ => ((getV ρ 3).bind fun d => ((getV ρ 4).bind fun d => (Out.ok []).bind fun ds => .ok (d :: ds)).bind fun ds => .ok (d :: ds)).bind fun ds => guard (decide (ds.length ≤ sizeLine)) (.ok (.tup ds))) ρ).fin fun d ρ => orStuck (setC ρ 2 (.sh d)) .nx) else (.nx ρ)
def fb2__law_great_fault : Vx.Env → SRes := fun ρ => (frzI [] (fun ρ => (((getV ρ 0).bind fun d => (Out.ok []).bind fun ds => .ok (d :: ds)).bind (one1 fun d => (Out.ofOpt (kvsD d)).bind fun kvs => (Out.ofOpt (intKeys kvs)).bind fun ns => .ok (.lst ((isort ns).map .int)))).bind fun d => (itemsL d).bind .ok) ρ).fin fun ds ρ => forL (fun d ρ => setC ρ 4 (.sh d)) fb1__law_great_fault ds ρ
def M__law_great_fault : Vx.Env → SRes := fun ρ => ((flatE (fun ρ => Out.ok D.non) ρ).fin fun d ρ => orStuck (setC ρ 2 (.sh d)) .nx).then fun ρ => ((frzI [] (fun ρ => (((getV ρ 0).bind fun d => (Out.ok []).bind fun ds => .ok (d :: ds)).bind (one1 fun d => (Out.ofOpt (kvsD d)).bind fun kvs => (Out.ofOpt (intKeys kvs)).bind fun ns => .ok (.lst ((isort ns).map .int)))).bind fun d => (itemsL d).bind .ok) ρ).fin fun ds ρ => forL (fun d ρ => setC ρ 3 (.sh d)) fb2__law_great_fault ds ρ).then fun ρ => (frzE [] (fun ρ => getV ρ 2) ρ).fin fun d ρ => .rt d ρ
def F__law_great_fault (ds : List D) : Out D := outP false (M__law_great_fault (cells ds 6))
theorem b__law_great_fault {P : Program} {w : World} {K : PySem.W.Frag} {mg : Str → Option Value} {base : Heap} {cl : Nat → Addr} (fx : Fx K mg cl) (C__law_has : Callee P w K mg base "_law_has" 1 (spP K cl 3 false F__law_has)) {f : Addr} {cdv : Value} {A : Around} {outer : List PySem.Env} {s : Shared} {H : Hp} {E : XK} (hr : Room 1 (cxOf (L2.CX P w) P w K mg base ["held", "start", "found", "low", "high", "parted"] "_law_great_fault" (defScope s__law_great_fault) f cdv A outer s H E).A) (hgd : (cxOf (L2.CX P w) P w K mg base ["held", "start", "found", "low", "high", "parted"] "_law_great_fault" (defScope s__law_great_fault) f cdv A outer s H E).A.guards = some []) :
    DSs (cxOf (L2.CX P w) P w K mg base ["held", "start", "found", "low", "high", "parted"] "_law_great_fault" (defScope s__law_great_fault) f cdv A outer s H E) cl (WofE E) false (defBody s__law_great_fault) M__law_great_fault :=
  (dss_cons (ds_set 2 sc__law_great_fault.nd (de_flat dp_non)) (dss_cons (ds_for owns_cx rfl (die_frz [] (di_list (DN.dp (dn_sortedK fx.sorted_ rfl (da_cons (dp_var 0) da_nil))))) (dgc_name 3 sc__law_great_fault.nd) (dss_one (ds_for owns_cx rfl (die_frz [] (di_list (DN.dp (dn_sortedK fx.sorted_ rfl (da_cons (dp_var 0) da_nil))))) (dgc_name 4 sc__law_great_fault.nd) (dss_cons (ds_set 5 sc__law_great_fault.nd (de_flat (dp_and (dp_cmpR cr_le (dp_var 3) (dp_var 4)) (dp_one (dp_cmpR (cr_ne hr) (dp_call C__law_has (hr.mono (by decide)) hgd takes_cx (da_cons (dp_var 0) (da_cons (dp_var 1) (da_cons (dp_bin bin_add (dp_var 3) (dp_var 4)) da_nil)))) (dp_call C__law_has (hr.mono (by decide)) hgd takes_cx (da_cons (dp_var 0) (da_cons (dp_var 1) (da_cons (dp_bin bin_add (dp_bin bin_add (dp_var 3) (dp_var 4)) dp_int) da_nil))))))))) (dss_one (ds_if (db_flat (DW.dt (dw_and (dt_val (dp_var 5)) (dw_and1 (DW.dt (dw_or (dt_isN (dp_var 2)) (dw_or1 (dt_cmpR cr_lt (dp_bin bin_add (dp_var 3) (dp_var 4)) (dp_bin bin_add (dp_ix (dp_var 2) dp_int) (dp_ix (dp_var 2) dp_int)))))))))) (dss_one (ds_set 2 sc__law_great_fault.nd (de_frz [] (dp_tup (da_cons (dp_var 3) (da_cons (dp_var 4) da_nil)))))) dss_nil)))))) (dss_one (ds_ret (de_frz [] (dp_var 2))))))
theorem ok__law_great_fault {P : Program} {w : World} {K : PySem.W.Frag} {mg : Str → Option Value} {base : Heap} {cl : Nat → Addr} (fx : Fx K mg cl) (C__law_has : Callee P w K mg base "_law_has" 1 (spP K cl 3 false F__law_has)) {f : Addr} {fd : FuncData} (Fd : FunD K "_law_great_fault" "_law_great_fault" (defArgs s__law_great_fault) (defBody s__law_great_fault) (defScope s__law_great_fault) [] [] f fd) :
    FnG P w K mg base 2 f fd ["held", "start"] (spP K cl 2 false F__law_great_fault) :=
  def_pure Fd sc__law_great_fault (by decide) (fun cdv A outer s H E hr hgd => b__law_great_fault fx C__law_has hr hgd) (fun _ _ => .inr rfl)

/-! _law_great_rich -/
theorem sc__law_great_rich : FnScope ["held", "low", "high"] ["held"] (defScope s__law_great_rich) := ⟨rfl, rfl, rfl, by decide +kernel, rfl, by decide +kernel, by decide +kernel⟩
def lc1__law_great_rich : PEnv → Out D := fun ρ => lcP (fun ρ => (getV ρ 0).bind keysD) (fun (d : D) (ρ : PEnv) => Out.ok (ρ.set 2 (some d))) (fun ρ => ((((getV ρ 1).bind fun d => (getV ρ 2).bind fun e => addD d e).bind fun d => (getV ρ 0).bind fun e => indD d e).bind toB).bind fun c => if c = true then .ok true else (((((getV ρ 1).bind fun d => (getV ρ 2).bind fun e => addD d e).bind fun d => (Out.ok (D.int 1)).bind fun e => addD d e).bind fun d => (getV ρ 0).bind fun e => indD d e).bind toB)) (fun ρ => getV ρ 2) [2] ρ
def fb2__law_great_rich : Vx.Env → SRes := fun ρ => (flatB (fun ρ => ((lc1__law_great_rich ρ).bind fun d => ((Out.ok []).bind fun ds => guard (decide (ds.length ≤ sizeLine)) (.ok (.lst ds))).bind fun e => neD d e).bind toB) ρ).fin fun b ρ => if b = true then ((flatE (fun ρ => Out.ok (D.bl true)) ρ).fin fun d ρ => .rt d ρ) else (.nx ρ)
def M__law_great_rich : Vx.Env → SRes := fun ρ => ((frzI [] (fun ρ => (getV ρ 0).bind keysD) ρ).fin fun ds ρ => forL (fun d ρ => setC ρ 1 (.sh d)) fb2__law_great_rich ds ρ).then fun ρ => (flatE (fun ρ => Out.ok (D.bl false)) ρ).fin fun d ρ => .rt d ρ
def F__law_great_rich (ds : List D) : Out D := outP false (M__law_great_rich (cells ds 3))
theorem b__law_great_rich {P : Program} {w : World} {K : PySem.W.Frag} {mg : Str → Option Value} {base : Heap} {cl : Nat → Addr} (fx : Fx K mg cl)  {f : Addr} {cdv : Value} {A : Around} {outer : List PySem.Env} {s : Shared} {H : Hp} {E : XK} (hr : Room 0 (cxOf (L2.CX P w) P w K mg base ["held", "low", "high"] "_law_great_rich" (defScope s__law_great_rich) f cdv A outer s H E).A) (hgd : (cxOf (L2.CX P w) P w K mg base ["held", "low", "high"] "_law_great_rich" (defScope s__law_great_rich) f cdv A outer s H E).A.guards = some []) :
    DSs (cxOf (L2.CX P w) P w K mg base ["held", "low", "high"] "_law_great_rich" (defScope s__law_great_rich) f cdv A outer s H E) cl (WofE E) false (defBody s__law_great_rich) M__law_great_rich :=
  (dss_cons (ds_for owns_cx rfl (die_frz [] (di_dict (dp_var 0))) (dgc_name 1 sc__law_great_rich.nd) (dss_one (ds_if (db_flat (dt_cmpR (cr_ne hr) (DN.dp (dn_lc' rfl sc__law_great_rich.nd (di_dict (dp_var 0)) (blk_ok [("high", 2)]) (by decide) (fun s H C cs fp => (dg_name 2 sc__law_great_rich.nd)) (fun s H C cs fp => (dts_one (DW.dt (dw_or (dt_cmpR (cr_ind hr) (dp_bin bin_add (dp_var 1) (dp_var 2)) (dp_var 0)) (dw_or1 (dt_cmpR (cr_ind hr) (dp_bin bin_add (dp_bin bin_add (dp_var 1) (dp_var 2)) dp_int) (dp_var 0))))))) (fun s H C cs fp => (dp_var 2)))) (DN.dp (dn_lst da_nil)))) (dss_one (ds_ret (de_flat dp_bl))) dss_nil))) (dss_one (ds_ret (de_flat dp_bl))))
theorem ok__law_great_rich {P : Program} {w : World} {K : PySem.W.Frag} {mg : Str → Option Value} {base : Heap} {cl : Nat → Addr} (fx : Fx K mg cl)  {f : Addr} {fd : FuncData} (Fd : FunD K "_law_great_rich" "_law_great_rich" (defArgs s__law_great_rich) (defBody s__law_great_rich) (defScope s__law_great_rich) [] [] f fd) :
    FnG P w K mg base 1 f fd ["held"] (spP K cl 1 false F__law_great_rich) :=
  def_pure Fd sc__law_great_rich (by decide) (fun cdv A outer s H E hr hgd => b__law_great_rich fx  hr hgd) (fun _ _ => .inr rfl)

/-! _law_great_right -/
theorem sc__law_great_right : FnScope ["generator", "told", "held", "lets", "due", "rich", "more", "number", "turn"] ["generator"] (defScope s__law_great_right) := ⟨rfl, rfl, rfl, by decide +kernel, rfl, by decide +kernel, by decide +kernel⟩
def lc1__law_great_right : PEnv → Out D := fun ρ => lcP (fun ρ => ((((((getV ρ 1).bind fun d => (Out.ok (D.int 1)).bind fun e => ixD d e).bind fun d => .ok (.bl (!isNon d))).bind fun d => (Out.ok []).bind fun ds => .ok (d :: ds)).bind (one1 intD)).bind fun d => (Out.ok []).bind fun ds => .ok (d :: ds)).bind rng1) (fun (d : D) (ρ : PEnv) => Out.ok (ρ.set 8 (some d))) (fun ρ => .ok true) (fun ρ => (getV ρ 1).bind fun d => (Out.ok (D.int 1)).bind fun e => ixD d e) [8] ρ
def lc2__law_great_right : PEnv → Out D := fun ρ => lcP (fun ρ => (((getV ρ 1).bind fun d => (Out.ok (D.int 0)).bind fun e => ixD d e).bind fun d => (lc1__law_great_right ρ).bind fun e => addD d e).bind fun d => (itemsL d).bind .ok) (fun (d : D) (ρ : PEnv) => Out.ok (ρ.set 7 (some d))) (fun ρ => .ok true) (fun ρ => ((getV ρ 7).bind fun d => ((Out.ok (D.int 0)).bind fun d => (Out.ok []).bind fun ds => .ok (d :: ds)).bind fun ds => .ok (d :: ds)).bind fun ds => guard (decide (ds.length ≤ sizeLine)) (.ok (.tup ds))) [7] ρ
def lc3__law_great_right : PEnv → Out D := fun ρ => lcP (fun ρ => (((Out.ok (D.int 2)).bind fun d => ((Out.ok (D.int 3)).bind fun d => (Out.ok []).bind fun ds => .ok (d :: ds)).bind fun ds => .ok (d :: ds)).bind fun ds => guard (decide (ds.length ≤ sizeLine)) (.ok (.lst ds))).bind fun d => (itemsL d).bind .ok) (fun (d : D) (ρ : PEnv) => Out.ok (ρ.set 6 (some d))) (fun ρ => .ok true) (fun ρ => ((getV ρ 3).bind fun d => (((((getV ρ 4).bind fun d => (Out.ok (D.int 0)).bind fun e => ixD d e).bind fun d => ((getV ρ 4).bind fun d => (Out.ok (D.int 1)).bind fun e => ixD d e).bind fun e => addD d e).bind fun d => (getV ρ 6).bind fun e => addD d e).bind fun d => (Out.ok []).bind fun ds => .ok (d :: ds)).bind fun ds => .ok (d :: ds)).bind fun ds => guard (decide (ds.length = 2)) (F_good_to ds)) [6] ρ
def M__law_great_right : Vx.Env → SRes := fun ρ => ((if (getO ρ 0).isSome = true then (Res.ok [] ρ).bind fun ds ρ => callM 1 0 F__law_great_set ds ρ else .stuck).fin fun d ρ => orStuck (setC ρ 1 (.sh d)) .nx).then fun ρ => ((frzE [] (fun ρ => (((lc2__law_great_right ρ).bind fun d => (Out.ok []).bind fun ds => .ok (d :: ds)).bind (one1 fun d => (itemsL d).bind fun ds => (Out.ofOpt (pairsD ds)).bind fun kvs => .ok (.dK (mergeD [] kvs)))).bind lockD) ρ).fin fun d ρ => orStuck (setC ρ 2 (.sh d)) .nx).then fun ρ => ((frzE [] (fun ρ => ((((((getV ρ 1).bind fun d => (Out.ok (D.int 0)).bind fun e => ixD d e).bind fun d => (itemsL d).bind fun ds => .ok (.lst ds.reverse)).bind fun d => (((getV ρ 1).bind fun d => (Out.ok (D.int 1)).bind fun e => ixD d e).bind fun d => (Out.ok []).bind fun ds => .ok (d :: ds)).bind fun ds => .ok (d :: ds)).bind fun ds => guard (decide (ds.length + ([] : List D).length + 1 = 3)) (makeD 0 F_Lets_init [] ds)).bind fun d => ((((getV ρ 2).bind fun d => (((getV ρ 1).bind fun d => (Out.ok (D.int 1)).bind fun e => ixD d e).bind fun d => (Out.ok []).bind fun ds => .ok (d :: ds)).bind fun ds => .ok (d :: ds)).bind fun ds => guard (decide (ds.length = 2)) (F__law_great_fault ds)).bind fun d => ((((getV ρ 2).bind fun d => (Out.ok []).bind fun ds => .ok (d :: ds)).bind fun ds => guard (decide (ds.length = 1)) (F__law_great_rich ds)).bind fun d => (Out.ok []).bind fun ds => .ok (d :: ds)).bind fun ds => .ok (d :: ds)).bind fun ds => .ok (d :: ds)).bind fun ds => guard (decide (ds.length ≤ sizeLine)) (.ok (.tup ds))) ρ).fin fun d ρ => orStuck ((fun d ρ => match d with | .tup ds => if ds.length = 3 then (fun ds ρ => match ds with | d :: ds => ((fun d ρ => setC ρ 3 (.sh d)) d ρ).bind fun ρ => (fun ds ρ => match ds with | d :: ds => ((fun d ρ => setC ρ 4 (.sh d)) d ρ).bind fun ρ => (fun ds ρ => match ds with | d :: ds => ((fun d ρ => setC ρ 5 (.sh d)) d ρ).bind fun ρ => (fun ds ρ => match ds with | [] => some ρ | _ => none) ds ρ | [] => none) ds ρ | [] => none) ds ρ | [] => none) ds ρ else none | _ => none) d ρ) .nx).then fun ρ => ((flatB (fun ρ => (((((((getV ρ 3).bind fun d => (Out.ok []).bind fun ds => .ok (d :: ds)).bind fun ds => guard (decide (ds.length = 1)) (F_fault ds)).bind fun d => (Out.ok []).bind fun ds => .ok (d :: ds)).bind (one1 reprD)).bind fun d => (((getV ρ 4).bind fun d => (Out.ok []).bind fun ds => .ok (d :: ds)).bind (one1 reprD)).bind fun e => neD d e).bind toB).bind fun c => if c = true then .ok true else ((((((((getV ρ 3).bind fun d => (Out.ok []).bind fun ds => .ok (d :: ds)).bind fun ds => guard (decide (ds.length = 1)) (F_good ds)).bind fun d => (Out.ok []).bind fun ds => .ok (d :: ds)).bind (one1 reprD)).bind fun d => ((((getV ρ 4).bind fun d => .ok (.bl (isNon d))).bind fun d => (Out.ok []).bind fun ds => .ok (d :: ds)).bind (one1 reprD)).bind fun e => neD d e).bind toB).bind fun c => if c = true then .ok true else (((((((getV ρ 3).bind fun d => (Out.ok []).bind fun ds => .ok (d :: ds)).bind fun ds => guard (decide (ds.length = 1)) (F_lean ds)).bind fun d => (Out.ok []).bind fun ds => .ok (d :: ds)).bind (one1 reprD)).bind fun d => (((((((getV ρ 1).bind fun d => (Out.ok (D.int 1)).bind fun e => ixD d e).bind fun d => .ok (.bl (isNon d))).bind toB).bind fun c => if c = true then (((getV ρ 5).bind toB).bind fun c => .ok (.bl (!c))) else .ok (.bl false)).bind fun d => (Out.ok []).bind fun ds => .ok (d :: ds)).bind (one1 reprD)).bind fun e => neD d e).bind toB))) ρ).fin fun b ρ => if b = true then ((flatE (fun ρ => Out.ok (D.bl false)) ρ).fin fun d ρ => .rt d ρ) else (.nx ρ)).then fun ρ => ((flatB (fun ρ => (getV ρ 4).bind fun d => .ok (isNon d)) ρ).fin fun b ρ => if b = true then ((flatE (fun ρ => (((((getV ρ 3).bind fun d => (Out.ok []).bind fun ds => .ok (d :: ds)).bind fun ds => guard (decide (ds.length = 1)) (F_holds_to ds)).bind fun d => .ok (.bl (isNon d))).bind toB).bind fun c => if c = true then ((((getV ρ 3).bind fun d => ((Out.ok (D.int 10000)).bind fun d => (Out.ok []).bind fun ds => .ok (d :: ds)).bind fun ds => .ok (d :: ds)).bind fun ds => guard (decide (ds.length = 2)) (F_good_to ds)).bind fun d => (Out.ok (D.bl true)).bind fun e => isBD d e) else .ok (.bl false)) ρ).fin fun d ρ => .rt d ρ) else (.nx ρ)).then fun ρ => (flatE (fun ρ => (((((((getV ρ 3).bind fun d => (Out.ok []).bind fun ds => .ok (d :: ds)).bind fun ds => guard (decide (ds.length = 1)) (F_holds_to ds)).bind fun d => (Out.ok []).bind fun ds => .ok (d :: ds)).bind (one1 reprD)).bind fun d => ((((((getV ρ 4).bind fun d => (Out.ok (D.int 0)).bind fun e => ixD d e).bind fun d => ((getV ρ 4).bind fun d => (Out.ok (D.int 1)).bind fun e => ixD d e).bind fun e => addD d e).bind fun d => (Out.ok (D.int 2)).bind fun e => addD d e).bind fun d => (Out.ok []).bind fun ds => .ok (d :: ds)).bind (one1 reprD)).bind fun e => eqD d e).bind toB).bind fun c => if c = true then ((lc3__law_great_right ρ).bind fun d => (((Out.ok (D.bl true)).bind fun d => ((Out.ok (D.bl false)).bind fun d => (Out.ok []).bind fun ds => .ok (d :: ds)).bind fun ds => .ok (d :: ds)).bind fun ds => guard (decide (ds.length ≤ sizeLine)) (.ok (.lst ds))).bind fun e => eqD d e) else .ok (.bl false)) ρ).fin fun d ρ => .rt d ρ
def F__law_great_right (d : D) (ds : List D) : Out (D × D) := outM false (M__law_great_right (cellsM d ds 9))
theorem b__law_great_right {P : Program} {w : World} {K : PySem.W.Frag} {mg : Str → Option Value} {base : Heap} {cl : Nat → Addr} (fx : Fx K mg cl) (C__law_great_set : Callee P w K mg base "_law_great_set" 3 (spM K cl 1 false F__law_great_set)) (C__law_great_fault : Callee P w K mg base "_law_great_fault" 2 (spP K cl 2 false F__law_great_fault)) (C__law_great_rich : Callee P w K mg base "_law_great_rich" 1 (spP K cl 1 false F__law_great_rich)) (C_fault : Callee P w K mg base "fault" 4 (spP K cl 1 false F_fault)) (C_good : Callee P w K mg base "good" 5 (spP K cl 1 false F_good)) (C_lean : Callee P w K mg base "lean" 4 (spP K cl 1 false F_lean)) (C_holds_to : Callee P w K mg base "holds_to" 5 (spP K cl 1 false F_holds_to)) (C_good_to : Callee P w K mg base "good_to" 4 (spP K cl 2 false F_good_to)) (CC_Lets_0 : CalleeC P w K mg base cl (cl 0) "Lets" 3 [] (spM K cl 3 false F_Lets_init)) {f : Addr} {cdv : Value} {A : Around} {outer : List PySem.Env} {s : Shared} {H : Hp} {E : XK} (hr : Room 5 (cxOf (L2.CX P w) P w K mg base ["generator", "told", "held", "lets", "due", "rich", "more", "number", "turn"] "_law_great_right" (defScope s__law_great_right) f cdv A outer s H E).A) (hgd : (cxOf (L2.CX P w) P w K mg base ["generator", "told", "held", "lets", "due", "rich", "more", "number", "turn"] "_law_great_right" (defScope s__law_great_right) f cdv A outer s H E).A.guards = some []) :
    DSs (cxOf (L2.CX P w) P w K mg base ["generator", "told", "held", "lets", "due", "rich", "more", "number", "turn"] "_law_great_right" (defScope s__law_great_right) f cdv A outer s H E) cl (WofE E) false (defBody s__law_great_right) M__law_great_right :=
  (dss_cons (ds_set 1 sc__law_great_right.nd (de_callM 0 C__law_great_set (hr.mono (by decide)) hgd takes_cx dae_nil)) (dss_cons (ds_set 2 sc__law_great_right.nd (de_frz [] (dp_lock (dn_dictP fx.dict_ rfl (da_cons (DN.dp (dn_lc' rfl sc__law_great_right.nd (di_list (dp_bin bin_add (dp_ix (dp_var 1) dp_int) (DN.dp (dn_lc' rfl sc__law_great_right.nd (di_range1 fx.range_ (da_cons (dp_int1 fx.int_ (da_cons (dp_notN (dp_ix (dp_var 1) dp_int)) da_nil)) da_nil)) (blk_ok [("turn", 8)]) (by decide) (fun s H C cs fp => (dg_name 8 sc__law_great_right.nd)) (fun s H C cs fp => dts_nil) (fun s H C cs fp => (dp_ix (dp_var 1) dp_int)))))) (blk_ok [("number", 7)]) (by decide) (fun s H C cs fp => (dg_name 7 sc__law_great_right.nd)) (fun s H C cs fp => dts_nil) (fun s H C cs fp => (dp_tup (da_cons (dp_var 7) (da_cons dp_int da_nil)))))) da_nil))))) (dss_cons (ds_asg (dgc_tup rfl (dgcs_cons (dgc_name 3 sc__law_great_right.nd) (dgcs_cons (dgc_name 4 sc__law_great_right.nd) (dgcs_cons (dgc_name 5 sc__law_great_right.nd) dgcs_nil)))) (de_frz [] (dp_tup (da_cons (DN.dp (dn_make 0 CC_Lets_0 (hr.mono (by decide)) hgd (dfl := []) (fun G => .nil) (da_cons (DN.dp (dn_revL (dp_ix (dp_var 1) dp_int))) (da_cons (dp_ix (dp_var 1) dp_int) da_nil)))) (da_cons (dp_call C__law_great_fault (hr.mono (by decide)) hgd takes_cx (da_cons (dp_var 2) (da_cons (dp_ix (dp_var 1) dp_int) da_nil))) (da_cons (dp_call C__law_great_rich (hr.mono (by decide)) hgd takes_cx (da_cons (dp_var 2) da_nil)) da_nil)))))) (dss_cons (ds_if (db_flat (DW.dt (dw_or (dt_cmpR (cr_ne hr) (dp_repr hgd (by have := hr.un; omega) fx.repr_ (da_cons (dp_call C_fault (hr.mono (by decide)) hgd takes_cx (da_cons (dp_var 3) da_nil)) da_nil)) (dp_repr hgd (by have := hr.un; omega) fx.repr_ (da_cons (dp_var 4) da_nil))) (dw_or (dt_cmpR (cr_ne hr) (dp_repr hgd (by have := hr.un; omega) fx.repr_ (da_cons (dp_call C_good (hr.mono (by decide)) hgd takes_cx (da_cons (dp_var 3) da_nil)) da_nil)) (dp_repr hgd (by have := hr.un; omega) fx.repr_ (da_cons (dp_isN (dp_var 4)) da_nil))) (dw_or1 (dt_cmpR (cr_ne hr) (dp_repr hgd (by have := hr.un; omega) fx.repr_ (da_cons (dp_call C_lean (hr.mono (by decide)) hgd takes_cx (da_cons (dp_var 3) da_nil)) da_nil)) (dp_repr hgd (by have := hr.un; omega) fx.repr_ (da_cons (dp_and (dp_isN (dp_ix (dp_var 1) dp_int)) (dp_one (dp_not (dp_var 5)))) da_nil)))))))) (dss_one (ds_ret (de_flat dp_bl))) dss_nil) (dss_cons (ds_if (db_flat (dt_isN (dp_var 4))) (dss_one (ds_ret (de_flat (dp_and (dp_isN (dp_call C_holds_to (hr.mono (by decide)) hgd takes_cx (da_cons (dp_var 3) da_nil))) (dp_one (dp_cmpR cr_isB (dp_call C_good_to (hr.mono (by decide)) hgd takes_cx (da_cons (dp_var 3) (da_cons dp_int da_nil))) dp_bl)))))) dss_nil) (dss_one (ds_ret (de_flat (dp_and (dp_cmpR (cr_eq hr) (dp_repr hgd (by have := hr.un; omega) fx.repr_ (da_cons (dp_call C_holds_to (hr.mono (by decide)) hgd takes_cx (da_cons (dp_var 3) da_nil)) da_nil)) (dp_repr hgd (by have := hr.un; omega) fx.repr_ (da_cons (dp_bin bin_add (dp_bin bin_add (dp_ix (dp_var 4) dp_int) (dp_ix (dp_var 4) dp_int)) dp_int) da_nil))) (dp_one (dp_cmpR (cr_eq hr) (DN.dp (dn_lc' rfl sc__law_great_right.nd (di_list (DN.dp (dn_lst (da_cons dp_int (da_cons dp_int da_nil))))) (blk_ok [("more", 6)]) (by decide) (fun s H C cs fp => (dg_name 6 sc__law_great_right.nd)) (fun s H C cs fp => dts_nil) (fun s H C cs fp => (dp_call C_good_to (hr.mono (by decide)) hgd takes_0 (da_cons (dp_var 3) (da_cons (dp_bin bin_add (dp_bin bin_add (dp_ix (dp_var 4) dp_int) (dp_ix (dp_var 4) dp_int)) (dp_var 6)) da_nil)))))) (DN.dp (dn_lst (da_cons dp_bl (da_cons dp_bl da_nil)))))))))))))))
theorem ok__law_great_right {P : Program} {w : World} {K : PySem.W.Frag} {mg : Str → Option Value} {base : Heap} {cl : Nat → Addr} (fx : Fx K mg cl) (C__law_great_set : Callee P w K mg base "_law_great_set" 3 (spM K cl 1 false F__law_great_set)) (C__law_great_fault : Callee P w K mg base "_law_great_fault" 2 (spP K cl 2 false F__law_great_fault)) (C__law_great_rich : Callee P w K mg base "_law_great_rich" 1 (spP K cl 1 false F__law_great_rich)) (C_fault : Callee P w K mg base "fault" 4 (spP K cl 1 false F_fault)) (C_good : Callee P w K mg base "good" 5 (spP K cl 1 false F_good)) (C_lean : Callee P w K mg base "lean" 4 (spP K cl 1 false F_lean)) (C_holds_to : Callee P w K mg base "holds_to" 5 (spP K cl 1 false F_holds_to)) (C_good_to : Callee P w K mg base "good_to" 4 (spP K cl 2 false F_good_to)) (CC_Lets_0 : CalleeC P w K mg base cl (cl 0) "Lets" 3 [] (spM K cl 3 false F_Lets_init)) {f : Addr} {fd : FuncData} (Fd : FunD K "_law_great_right" "_law_great_right" (defArgs s__law_great_right) (defBody s__law_great_right) (defScope s__law_great_right) [] [] f fd) :
    FnG P w K mg base 6 f fd ["generator"] (spM K cl 1 false F__law_great_right) :=
  def_mut Fd sc__law_great_right (by decide) (fun cdv A outer s H E hr hgd => b__law_great_right fx C__law_great_set C__law_great_fault C__law_great_rich C_fault C_good C_lean C_holds_to C_good_to CC_Lets_0 hr hgd) (fun _ _ _ => .inr rfl)

/-! law -/
theorem sc_law : FnScope ["script", "index", "told", "first", "numbers", "start"] ["script"] (defScope s_law) := ⟨rfl, rfl, rfl, by decide +kernel, rfl, by decide +kernel, by decide +kernel⟩
def fb1_law : Vx.Env → SRes := fun ρ => ((((frzE [] (fun ρ => ((getV ρ 0).bind fun d => ((getV ρ 1).bind fun d => (Out.ok []).bind fun ds => .ok (d :: ds)).bind fun ds => .ok (d :: ds)).bind fun ds => guard (decide (ds.length = 2)) (F__law_generator ds)) ρ).bind fun d ρ => callT F__law_right d ρ).bind toBE).bind fun c ρ => .ok (!c) ρ).fin fun b ρ => if b = true then ((flatE (fun ρ => Out.ok (D.bl false)) ρ).fin fun d ρ => .rt d ρ) else (.nx ρ)
def lc2_law : PEnv → Out D := fun ρ => lcP (fun ρ => (((((((Out.ok (D.int 1)).bind fun d => ((Out.ok (D.int 2)).bind fun d => (Out.ok []).bind fun ds => .ok (d :: ds)).bind fun ds => .ok (d :: ds)).bind fun ds => guard (decide (ds.length ≤ sizeLine)) (.ok (.lst ds))).bind fun d => ((Out.ok D.non).bind fun d => (Out.ok []).bind fun ds => .ok (d :: ds)).bind fun ds => .ok (d :: ds)).bind fun ds => guard (decide (ds.length ≤ sizeLine)) (.ok (.tup ds))).bind fun d => ((((((Out.ok (D.int 500)).bind fun d => ((Out.ok (D.int 1000)).bind fun d => (Out.ok []).bind fun ds => .ok (d :: ds)).bind fun ds => .ok (d :: ds)).bind fun ds => guard (decide (ds.length ≤ sizeLine)) (.ok (.lst ds))).bind fun d => ((Out.ok D.non).bind fun d => (Out.ok []).bind fun ds => .ok (d :: ds)).bind fun ds => .ok (d :: ds)).bind fun ds => guard (decide (ds.length ≤ sizeLine)) (.ok (.tup ds))).bind fun d => ((((((Out.ok (D.int 1)).bind fun d => (Out.ok []).bind fun ds => .ok (d :: ds)).bind fun ds => guard (decide (ds.length ≤ sizeLine)) (.ok (.lst ds))).bind fun d => ((Out.ok (D.int 4)).bind fun d => (Out.ok []).bind fun ds => .ok (d :: ds)).bind fun ds => .ok (d :: ds)).bind fun ds => guard (decide (ds.length ≤ sizeLine)) (.ok (.tup ds))).bind fun d => ((((((Out.ok (D.int 3)).bind fun d => (Out.ok []).bind fun ds => .ok (d :: ds)).bind fun ds => guard (decide (ds.length ≤ sizeLine)) (.ok (.lst ds))).bind fun d => ((Out.ok (D.int 7)).bind fun d => (Out.ok []).bind fun ds => .ok (d :: ds)).bind fun ds => .ok (d :: ds)).bind fun ds => guard (decide (ds.length ≤ sizeLine)) (.ok (.tup ds))).bind fun d => (((((Out.ok []).bind fun ds => guard (decide (ds.length ≤ sizeLine)) (.ok (.lst ds))).bind fun d => ((Out.ok (D.int 1)).bind fun d => (Out.ok []).bind fun ds => .ok (d :: ds)).bind fun ds => .ok (d :: ds)).bind fun ds => guard (decide (ds.length ≤ sizeLine)) (.ok (.tup ds))).bind fun d => (Out.ok []).bind fun ds => .ok (d :: ds)).bind fun ds => .ok (d :: ds)).bind fun ds => .ok (d :: ds)).bind fun ds => .ok (d :: ds)).bind fun ds => .ok (d :: ds)).bind fun ds => guard (decide (ds.length ≤ sizeLine)) (.ok (.lst ds))).bind fun d => (itemsL d).bind .ok) (fun d ρ => match d with | .tup ds => guard (decide (ds.length = 2)) ((fun ds ρ => match ds with | d :: ds => ((fun (d : D) (ρ : PEnv) => Out.ok (ρ.set 4 (some d))) d ρ).bind fun ρ => (fun ds ρ => match ds with | d :: ds => ((fun (d : D) (ρ : PEnv) => Out.ok (ρ.set 5 (some d))) d ρ).bind fun ρ => (fun (ds : List D) (ρ : PEnv) => match ds with | [] => Out.ok ρ | _ => Out.stuck) ds ρ | [] => .stuck) ds ρ | [] => .stuck) ds ρ) | _ => .stuck) (fun ρ => .ok true) (fun ρ => ((((((getV ρ 4).bind fun d => (Out.ok []).bind fun ds => .ok (d :: ds)).bind (one1 fun d => (seqD d).bind fun ds => .ok (.lst ds))).bind fun d => ((getV ρ 5).bind fun d => (Out.ok []).bind fun ds => .ok (d :: ds)).bind fun ds => .ok (d :: ds)).bind fun ds => guard (decide (ds.length + ([] : List D).length + 1 = 3)) (makeD 0 F_Lets_init [] ds)).bind fun d => (Out.ok []).bind fun ds => .ok (d :: ds)).bind fun ds => guard (decide (ds.length = 1)) (F_fault ds)) [4, 5] ρ
def lc3_law : PEnv → Out D := fun ρ => lcP (fun ρ => (((Out.ok (D.int 1)).bind fun d => ((Out.ok (D.int 2)).bind fun d => ((Out.ok (D.int 1000)).bind fun d => (Out.ok []).bind fun ds => .ok (d :: ds)).bind fun ds => .ok (d :: ds)).bind fun ds => .ok (d :: ds)).bind fun ds => guard (decide (ds.length ≤ sizeLine)) (.ok (.lst ds))).bind fun d => (itemsL d).bind .ok) (fun (d : D) (ρ : PEnv) => Out.ok (ρ.set 3 (some d))) (fun ρ => .ok true) (fun ρ => ((((((getV ρ 3).bind fun d => (Out.ok []).bind fun ds => .ok (d :: ds)).bind fun ds => guard (decide (ds.length ≤ sizeLine)) (.ok (.lst ds))).bind fun d => (Out.ok []).bind fun ds => .ok (d :: ds)).bind fun ds => guard (decide (ds.length + ([D.non] : List D).length + 1 = 3)) (makeD 0 F_Lets_init [D.non] ds)).bind fun d => (Out.ok []).bind fun ds => .ok (d :: ds)).bind fun ds => guard (decide (ds.length = 1)) (F_lean ds)) [3] ρ
def M_law : Vx.Env → SRes := fun ρ => ((flatI (fun ρ => ((Out.ok (D.int 4)).bind fun d => (Out.ok []).bind fun ds => .ok (d :: ds)).bind rng1) ρ).fin fun ds ρ => forL (fun d ρ => setC ρ 1 (.sh d)) fb1_law ds ρ).then fun ρ => (((((frzE [] (fun ρ => ((getV ρ 0).bind fun d => ((Out.ok (D.int 4)).bind fun d => (Out.ok []).bind fun ds => .ok (d :: ds)).bind fun ds => .ok (d :: ds)).bind fun ds => guard (decide (ds.length = 2)) (F__law_generator ds)) ρ).bind fun d ρ => callT F__law_great_right d ρ).bind toBE).bind fun c ρ => .ok (!c) ρ).fin fun b ρ => if b = true then ((flatE (fun ρ => Out.ok (D.bl false)) ρ).fin fun d ρ => .rt d ρ) else (.nx ρ)).then fun ρ => ((frzE [] (fun ρ => lc2_law ρ) ρ).fin fun d ρ => orStuck (setC ρ 2 (.ow d)) .nx).then fun ρ => ((flatB (fun ρ => ((getV ρ 2).bind fun d => (((((Out.ok (D.int 1)).bind fun d => ((Out.ok (D.int 1)).bind fun d => (Out.ok []).bind fun ds => .ok (d :: ds)).bind fun ds => .ok (d :: ds)).bind fun ds => guard (decide (ds.length ≤ sizeLine)) (.ok (.tup ds))).bind fun d => ((((Out.ok (D.int 500)).bind fun d => ((Out.ok (D.int 500)).bind fun d => (Out.ok []).bind fun ds => .ok (d :: ds)).bind fun ds => .ok (d :: ds)).bind fun ds => guard (decide (ds.length ≤ sizeLine)) (.ok (.tup ds))).bind fun d => ((Out.ok D.non).bind fun d => ((((Out.ok (D.int 3)).bind fun d => ((Out.ok (D.int 3)).bind fun d => (Out.ok []).bind fun ds => .ok (d :: ds)).bind fun ds => .ok (d :: ds)).bind fun ds => guard (decide (ds.length ≤ sizeLine)) (.ok (.tup ds))).bind fun d => ((Out.ok D.non).bind fun d => (Out.ok []).bind fun ds => .ok (d :: ds)).bind fun ds => .ok (d :: ds)).bind fun ds => .ok (d :: ds)).bind fun ds => .ok (d :: ds)).bind fun ds => .ok (d :: ds)).bind fun ds => guard (decide (ds.length ≤ sizeLine)) (.ok (.lst ds))).bind fun e => neD d e).bind toB) ρ).fin fun b ρ => if b = true then ((flatE (fun ρ => Out.ok (D.bl false)) ρ).fin fun d ρ => .rt d ρ) else (.nx ρ)).then fun ρ => ((flatB (fun ρ => (((lc3_law ρ).bind fun d => ((((Out.ok (D.bl true)).bind fun d => (Out.ok []).bind fun ds => .ok (d :: ds)).bind fun ds => guard (decide (ds.length ≤ sizeLine)) (.ok (.lst ds))).bind fun d => (Out.ok (D.int 3)).bind fun e => mulD d e).bind fun e => neD d e).bind toB).bind fun c => if c = true then .ok true else (((((((((Out.ok []).bind fun ds => guard (decide (ds.length ≤ sizeLine)) (.ok (.lst ds))).bind fun d => ((Out.ok (D.int 1000)).bind fun d => (Out.ok []).bind fun ds => .ok (d :: ds)).bind fun ds => .ok (d :: ds)).bind fun ds => guard (decide (ds.length + ([] : List D).length + 1 = 3)) (makeD 0 F_Lets_init [] ds)).bind fun d => (Out.ok []).bind fun ds => .ok (d :: ds)).bind fun ds => guard (decide (ds.length = 1)) (F_lean ds)).bind fun d => (Out.ok (D.bl false)).bind fun e => notBD d e).bind toB).bind fun c => if c = true then .ok true else ((((((((Out.ok []).bind fun ds => guard (decide (ds.length ≤ sizeLine)) (.ok (.lst ds))).bind fun d => (Out.ok []).bind fun ds => .ok (d :: ds)).bind fun ds => guard (decide (ds.length + ([D.non] : List D).length + 1 = 3)) (makeD 0 F_Lets_init [D.non] ds)).bind fun d => (Out.ok []).bind fun ds => .ok (d :: ds)).bind fun ds => guard (decide (ds.length = 1)) (F_lean ds)).bind fun d => (Out.ok (D.bl true)).bind fun e => notBD d e).bind toB))) ρ).fin fun b ρ => if b = true then ((flatE (fun ρ => Out.ok (D.bl false)) ρ).fin fun d ρ => .rt d ρ) else (.nx ρ)).then fun ρ => ((flatB (fun ρ => (((((((((Out.ok (D.int 500)).bind fun d => ((Out.ok (D.int 1000)).bind fun d => (Out.ok []).bind fun ds => .ok (d :: ds)).bind fun ds => .ok (d :: ds)).bind fun ds => guard (decide (ds.length ≤ sizeLine)) (.ok (.lst ds))).bind fun d => (Out.ok []).bind fun ds => .ok (d :: ds)).bind fun ds => guard (decide (ds.length + ([D.non] : List D).length + 1 = 3)) (makeD 0 F_Lets_init [D.non] ds)).bind fun d => (Out.ok []).bind fun ds => .ok (d :: ds)).bind fun ds => guard (decide (ds.length = 1)) (F_lean ds)).bind fun d => (Out.ok (D.bl false)).bind fun e => notBD d e).bind toB).bind fun c => if c = true then .ok true else ((((((((((Out.ok (D.int 1)).bind fun d => ((Out.ok (D.int 4)).bind fun d => (Out.ok []).bind fun ds => .ok (d :: ds)).bind fun ds => .ok (d :: ds)).bind fun ds => guard (decide (ds.length ≤ sizeLine)) (.ok (.lst ds))).bind fun d => (Out.ok []).bind fun ds => .ok (d :: ds)).bind fun ds => guard (decide (ds.length + ([D.non] : List D).length + 1 = 3)) (makeD 0 F_Lets_init [D.non] ds)).bind fun d => ((Out.ok (D.int 10000)).bind fun d => (Out.ok []).bind fun ds => .ok (d :: ds)).bind fun ds => .ok (d :: ds)).bind fun ds => guard (decide (ds.length = 2)) (F_good_to ds)).bind fun d => (Out.ok (D.bl true)).bind fun e => notBD d e).bind toB).bind fun c => if c = true then .ok true else (((((((((Out.ok (D.int 500)).bind fun d => ((Out.ok (D.int 1000)).bind fun d => (Out.ok []).bind fun ds => .ok (d :: ds)).bind fun ds => .ok (d :: ds)).bind fun ds => guard (decide (ds.length ≤ sizeLine)) (.ok (.lst ds))).bind fun d => (Out.ok []).bind fun ds => .ok (d :: ds)).bind fun ds => guard (decide (ds.length + ([D.non] : List D).length + 1 = 3)) (makeD 0 F_Lets_init [D.non] ds)).bind fun d => ((Out.ok (D.int 10000)).bind fun d => (Out.ok []).bind fun ds => .ok (d :: ds)).bind fun ds => .ok (d :: ds)).bind fun ds => guard (decide (ds.length = 2)) (F_good_to ds)).bind fun d => (Out.ok (D.bl false)).bind fun e => notBD d e).bind toB))) ρ).fin fun b ρ => if b = true then ((flatE (fun ρ => Out.ok (D.bl false)) ρ).fin fun d ρ => .rt d ρ) else (.nx ρ)).then fun ρ => ((flatB (fun ρ => (((((((((Out.ok (D.int 500)).bind fun d => ((Out.ok (D.int 1000)).bind fun d => (Out.ok []).bind fun ds => .ok (d :: ds)).bind fun ds => .ok (d :: ds)).bind fun ds => guard (decide (ds.length ≤ sizeLine)) (.ok (.lst ds))).bind fun d => (Out.ok []).bind fun ds => .ok (d :: ds)).bind fun ds => guard (decide (ds.length + ([D.non] : List D).length + 1 = 3)) (makeD 0 F_Lets_init [D.non] ds)).bind fun d => ((Out.ok (D.int 1002)).bind fun d => (Out.ok []).bind fun ds => .ok (d :: ds)).bind fun ds => .ok (d :: ds)).bind fun ds => guard (decide (ds.length = 2)) (F_good_to ds)).bind fun d => (Out.ok (D.bl true)).bind fun e => notBD d e).bind toB).bind fun c => if c = true then .ok true else (((((((((Out.ok (D.int 500)).bind fun d => ((Out.ok (D.int 1000)).bind fun d => (Out.ok []).bind fun ds => .ok (d :: ds)).bind fun ds => .ok (d :: ds)).bind fun ds => guard (decide (ds.length ≤ sizeLine)) (.ok (.lst ds))).bind fun d => (Out.ok []).bind fun ds => .ok (d :: ds)).bind fun ds => guard (decide (ds.length + ([D.non] : List D).length + 1 = 3)) (makeD 0 F_Lets_init [D.non] ds)).bind fun d => (Out.ok []).bind fun ds => .ok (d :: ds)).bind fun ds => guard (decide (ds.length = 1)) (F_holds_to ds)).bind fun d => (Out.ok (D.int 1002)).bind fun e => neD d e).bind toB)) ρ).fin fun b ρ => if b = true then ((flatE (fun ρ => Out.ok (D.bl false)) ρ).fin fun d ρ => .rt d ρ) else (.nx ρ)).then fun ρ => (flatE (fun ρ => ((((((((Out.ok (D.int 101)).bind fun d => (Out.ok (D.int 202)).bind fun e => match d, e with | .int i, .int j => rgD i j | _, _ => .stuck).bind fun d => (Out.ok []).bind fun ds => .ok (d :: ds)).bind fun ds => guard (decide (ds.length + ([D.non] : List D).length + 1 = 3)) (makeD 0 F_Lets_init [D.non] ds)).bind fun d => (Out.ok []).bind fun ds => .ok (d :: ds)).bind fun ds => guard (decide (ds.length = 1)) (F_good ds)).bind fun d => (Out.ok (D.bl true)).bind fun e => isBD d e).bind toB).bind fun c => if c = true then (((((((((Out.ok (D.int 101)).bind fun d => (Out.ok (D.int 202)).bind fun e => match d, e with | .int i, .int j => rgD i j | _, _ => .stuck).bind fun d => (Out.ok []).bind fun ds => .ok (d :: ds)).bind fun ds => guard (decide (ds.length + ([D.non] : List D).length + 1 = 3)) (makeD 0 F_Lets_init [D.non] ds)).bind fun d => (Out.ok []).bind fun ds => .ok (d :: ds)).bind fun ds => guard (decide (ds.length = 1)) (F_lean ds)).bind fun d => (Out.ok (D.bl true)).bind fun e => isBD d e).bind toB).bind fun c => if c = true then (((((((Out.ok (D.int 101)).bind fun d => (Out.ok (D.int 204)).bind fun e => match d, e with | .int i, .int j => rgD i j | _, _ => .stuck).bind fun d => (Out.ok []).bind fun ds => .ok (d :: ds)).bind fun ds => guard (decide (ds.length + ([D.non] : List D).length + 1 = 3)) (makeD 0 F_Lets_init [D.non] ds)).bind fun d => (Out.ok []).bind fun ds => .ok (d :: ds)).bind fun ds => guard (decide (ds.length = 1)) (F_good ds)).bind fun d => (Out.ok (D.bl false)).bind fun e => isBD d e) else .ok (.bl false)) else .ok (.bl false)) ρ).fin fun d ρ => .rt d ρ
def F_law (ds : List D) : Out D := outP false (M_law (cells ds 6))
theorem b_law {P : Program} {w : World} {K : PySem.W.Frag} {mg : Str → Option Value} {base : Heap} {cl : Nat → Addr} (fx : Fx K mg cl) (C__law_right : Callee P w K mg base "_law_right" 6 (spM K cl 1 false F__law_right)) (C__law_generator : Callee P w K mg base "_law_generator" 2 (spP K cl 2 true F__law_generator)) (C__law_great_right : Callee P w K mg base "_law_great_right" 6 (spM K cl 1 false F__law_great_right)) (C_fault : Callee P w K mg base "fault" 4 (spP K cl 1 false F_fault)) (C_lean : Callee P w K mg base "lean" 4 (spP K cl 1 false F_lean)) (C_good_to : Callee P w K mg base "good_to" 4 (spP K cl 2 false F_good_to)) (C_holds_to : Callee P w K mg base "holds_to" 5 (spP K cl 1 false F_holds_to)) (C_good : Callee P w K mg base "good" 5 (spP K cl 1 false F_good)) (CC_Lets_0 : CalleeC P w K mg base cl (cl 0) "Lets" 3 [] (spM K cl 3 false F_Lets_init)) (CC_Lets_1 : CalleeC P w K mg base cl (cl 0) "Lets" 3 [V.non] (spM K cl 3 false F_Lets_init)) {f : Addr} {cdv : Value} {A : Around} {outer : List PySem.Env} {s : Shared} {H : Hp} {E : XK} (hr : Room 6 (cxOf (L2.CX P w) P w K mg base ["script", "index", "told", "first", "numbers", "start"] "law" (defScope s_law) f cdv A outer s H E).A) (hgd : (cxOf (L2.CX P w) P w K mg base ["script", "index", "told", "first", "numbers", "start"] "law" (defScope s_law) f cdv A outer s H E).A.guards = some []) :
    DSs (cxOf (L2.CX P w) P w K mg base ["script", "index", "told", "first", "numbers", "start"] "law" (defScope s_law) f cdv A outer s H E) cl (WofE E) false (defBody s_law) M_law :=
  (dss_cons (ds_for owns_cx rfl (die_range1 fx.range_ (da_cons dp_int da_nil)) (dgc_name 1 sc_law.nd) (dss_one (ds_if (db_not (db_val (de_callT C__law_right (hr.mono (by decide)) hgd takes_cx (df_frz [] (dn_call C__law_generator (hr.mono (by decide)) hgd takes_cx (da_cons (dp_var 0) (da_cons (dp_var 1) da_nil))))))) (dss_one (ds_ret (de_flat dp_bl))) dss_nil))) (dss_cons (ds_if (db_not (db_val (de_callT C__law_great_right (hr.mono (by decide)) hgd takes_cx (df_frz [] (dn_call C__law_generator (hr.mono (by decide)) hgd takes_cx (da_cons (dp_var 0) (da_cons dp_int da_nil))))))) (dss_one (ds_ret (de_flat dp_bl))) dss_nil) (dss_cons (ds_setLc 2 (dlc_frz [] rfl sc_law.nd (di_list (DN.dp (dn_lst (da_cons (dp_tup (da_cons (DN.dp (dn_lst (da_cons dp_int (da_cons dp_int da_nil)))) (da_cons dp_non da_nil))) (da_cons (dp_tup (da_cons (DN.dp (dn_lst (da_cons dp_int (da_cons dp_int da_nil)))) (da_cons dp_non da_nil))) (da_cons (dp_tup (da_cons (DN.dp (dn_lst (da_cons dp_int da_nil))) (da_cons dp_int da_nil))) (da_cons (dp_tup (da_cons (DN.dp (dn_lst (da_cons dp_int da_nil))) (da_cons dp_int da_nil))) (da_cons (dp_tup (da_cons (DN.dp (dn_lst da_nil)) (da_cons dp_int da_nil))) da_nil)))))))) (blk_ok [("numbers", 4), ("start", 5)]) (by decide) (fun s H C cs fp => (dg_tup rfl (dgs_cons (dg_name 4 sc_law.nd) (dgs_cons (dg_name 5 sc_law.nd) dgs_nil)))) (fun s H C cs fp => dts_nil) (fun s H C cs fp => (dp_call C_fault (hr.mono (by decide)) hgd takes_0 (da_cons (DN.dp (dn_make 0 CC_Lets_0 (hr.mono (by decide)) hgd (dfl := []) (fun G => .nil) (da_cons (DN.dp (dn_list fx.list_ (da_cons (dp_var 4) da_nil))) (da_cons (dp_var 5) da_nil)))) da_nil))))) (dss_cons (ds_if (db_flat (dt_cmpR (cr_ne hr) (dp_var 2) (DN.dp (dn_lst (da_cons (dp_tup (da_cons dp_int (da_cons dp_int da_nil))) (da_cons (dp_tup (da_cons dp_int (da_cons dp_int da_nil))) (da_cons dp_non (da_cons (dp_tup (da_cons dp_int (da_cons dp_int da_nil))) (da_cons dp_non da_nil))))))))) (dss_one (ds_ret (de_flat dp_bl))) dss_nil) (dss_cons (ds_if (db_flat (DW.dt (dw_or (dt_cmpR (cr_ne hr) (DN.dp (dn_lc' rfl sc_law.nd (di_list (DN.dp (dn_lst (da_cons dp_int (da_cons dp_int (da_cons dp_int da_nil)))))) (blk_ok [("first", 3)]) (by decide) (fun s H C cs fp => (dg_name 3 sc_law.nd)) (fun s H C cs fp => dts_nil) (fun s H C cs fp => (dp_call C_lean (hr.mono (by decide)) hgd takes_0 (da_cons (DN.dp (dn_make 0 CC_Lets_1 (hr.mono (by decide)) hgd (dfl := [D.non]) (fun G => .cons .non (.nil)) (da_cons (DN.dp (dn_lst (da_cons (dp_var 3) da_nil))) da_nil))) da_nil))))) (dp_bin bin_mul (DN.dp (dn_lst (da_cons dp_bl da_nil))) dp_int)) (dw_or (dt_cmpR cr_notB (dp_call C_lean (hr.mono (by decide)) hgd takes_cx (da_cons (DN.dp (dn_make 0 CC_Lets_0 (hr.mono (by decide)) hgd (dfl := []) (fun G => .nil) (da_cons (DN.dp (dn_lst da_nil)) (da_cons dp_int da_nil)))) da_nil)) dp_bl) (dw_or1 (dt_cmpR cr_notB (dp_call C_lean (hr.mono (by decide)) hgd takes_cx (da_cons (DN.dp (dn_make 0 CC_Lets_1 (hr.mono (by decide)) hgd (dfl := [D.non]) (fun G => .cons .non (.nil)) (da_cons (DN.dp (dn_lst da_nil)) da_nil))) da_nil)) dp_bl)))))) (dss_one (ds_ret (de_flat dp_bl))) dss_nil) (dss_cons (ds_if (db_flat (DW.dt (dw_or (dt_cmpR cr_notB (dp_call C_lean (hr.mono (by decide)) hgd takes_cx (da_cons (DN.dp (dn_make 0 CC_Lets_1 (hr.mono (by decide)) hgd (dfl := [D.non]) (fun G => .cons .non (.nil)) (da_cons (DN.dp (dn_lst (da_cons dp_int (da_cons dp_int da_nil)))) da_nil))) da_nil)) dp_bl) (dw_or (dt_cmpR cr_notB (dp_call C_good_to (hr.mono (by decide)) hgd takes_cx (da_cons (DN.dp (dn_make 0 CC_Lets_1 (hr.mono (by decide)) hgd (dfl := [D.non]) (fun G => .cons .non (.nil)) (da_cons (DN.dp (dn_lst (da_cons dp_int (da_cons dp_int da_nil)))) da_nil))) (da_cons dp_int da_nil))) dp_bl) (dw_or1 (dt_cmpR cr_notB (dp_call C_good_to (hr.mono (by decide)) hgd takes_cx (da_cons (DN.dp (dn_make 0 CC_Lets_1 (hr.mono (by decide)) hgd (dfl := [D.non]) (fun G => .cons .non (.nil)) (da_cons (DN.dp (dn_lst (da_cons dp_int (da_cons dp_int da_nil)))) da_nil))) (da_cons dp_int da_nil))) dp_bl)))))) (dss_one (ds_ret (de_flat dp_bl))) dss_nil) (dss_cons (ds_if (db_flat (DW.dt (dw_or (dt_cmpR cr_notB (dp_call C_good_to (hr.mono (by decide)) hgd takes_cx (da_cons (DN.dp (dn_make 0 CC_Lets_1 (hr.mono (by decide)) hgd (dfl := [D.non]) (fun G => .cons .non (.nil)) (da_cons (DN.dp (dn_lst (da_cons dp_int (da_cons dp_int da_nil)))) da_nil))) (da_cons dp_int da_nil))) dp_bl) (dw_or1 (dt_cmpR (cr_ne hr) (dp_call C_holds_to (hr.mono (by decide)) hgd takes_cx (da_cons (DN.dp (dn_make 0 CC_Lets_1 (hr.mono (by decide)) hgd (dfl := [D.non]) (fun G => .cons .non (.nil)) (da_cons (DN.dp (dn_lst (da_cons dp_int (da_cons dp_int da_nil)))) da_nil))) da_nil)) dp_int))))) (dss_one (ds_ret (de_flat dp_bl))) dss_nil) (dss_one (ds_ret (de_flat (dp_and (dp_cmpR cr_isB (dp_call C_good (hr.mono (by decide)) hgd takes_cx (da_cons (DN.dp (dn_make 0 CC_Lets_1 (hr.mono (by decide)) hgd (dfl := [D.non]) (fun G => .cons .non (.nil)) (da_cons (DN.dp (dn_listRange2 fx.list_ fx.range_ rfl dp_int dp_int)) da_nil))) da_nil)) dp_bl) (dp_and (dp_cmpR cr_isB (dp_call C_lean (hr.mono (by decide)) hgd takes_cx (da_cons (DN.dp (dn_make 0 CC_Lets_1 (hr.mono (by decide)) hgd (dfl := [D.non]) (fun G => .cons .non (.nil)) (da_cons (DN.dp (dn_listRange2 fx.list_ fx.range_ rfl dp_int dp_int)) da_nil))) da_nil)) dp_bl) (dp_one (dp_cmpR cr_isB (dp_call C_good (hr.mono (by decide)) hgd takes_cx (da_cons (DN.dp (dn_make 0 CC_Lets_1 (hr.mono (by decide)) hgd (dfl := [D.non]) (fun G => .cons .non (.nil)) (da_cons (DN.dp (dn_listRange2 fx.list_ fx.range_ rfl dp_int dp_int)) da_nil))) da_nil)) dp_bl))))))))))))))
theorem ok_law {P : Program} {w : World} {K : PySem.W.Frag} {mg : Str → Option Value} {base : Heap} {cl : Nat → Addr} (fx : Fx K mg cl) (C__law_right : Callee P w K mg base "_law_right" 6 (spM K cl 1 false F__law_right)) (C__law_generator : Callee P w K mg base "_law_generator" 2 (spP K cl 2 true F__law_generator)) (C__law_great_right : Callee P w K mg base "_law_great_right" 6 (spM K cl 1 false F__law_great_right)) (C_fault : Callee P w K mg base "fault" 4 (spP K cl 1 false F_fault)) (C_lean : Callee P w K mg base "lean" 4 (spP K cl 1 false F_lean)) (C_good_to : Callee P w K mg base "good_to" 4 (spP K cl 2 false F_good_to)) (C_holds_to : Callee P w K mg base "holds_to" 5 (spP K cl 1 false F_holds_to)) (C_good : Callee P w K mg base "good" 5 (spP K cl 1 false F_good)) (CC_Lets_0 : CalleeC P w K mg base cl (cl 0) "Lets" 3 [] (spM K cl 3 false F_Lets_init)) (CC_Lets_1 : CalleeC P w K mg base cl (cl 0) "Lets" 3 [V.non] (spM K cl 3 false F_Lets_init)) {f : Addr} {fd : FuncData} (Fd : FunD K "law" "law" (defArgs s_law) (defBody s_law) (defScope s_law) [] [] f fd) :
    FnG P w K mg base 7 f fd ["script"] (spP K cl 1 false F_law) :=
  def_pure Fd sc_law (by decide) (fun cdv A outer s H E hr hgd => b_law fx C__law_right C__law_generator C__law_great_right C_fault C_lean C_good_to C_holds_to C_good CC_Lets_0 CC_Lets_1 hr hgd) (fun _ _ => .inr rfl)
end Dv
end
section
set_option maxRecDepth 100000
set_option maxHeartbeats 4000000
namespace As
open PySem PySem.Spec PyProof.Rows L2 Vx Hd Dv

/-- the classes' addresses -/
def cls (K : PySem.W.Frag) : Nat → Addr
  | 0 => He.ga K "Lets"
  | _ => 0
theorem fx_of {K : PySem.W.Frag} {h : Heap} {mg : Str → Option Value} (X : K.In h) (G : h.Ns mainGlobals mg) (c : He.SaysD fa fn K) (e : ex K = true) : Fx K mg (cls K) where
  bool_ := He.free_ok X G (c.fact 33 rfl)
  dict_ := He.free_ok X G (c.fact 34 rfl)
  int_ := He.free_ok X G (c.fact 35 rfl)
  isinstance_ := He.free_ok X G (c.fact 36 rfl)
  len_ := He.free_ok X G (c.fact 37 rfl)
  list_ := He.free_ok X G (c.fact 38 rfl)
  max_ := He.free_ok X G (c.fact 39 rfl)
  min_ := He.free_ok X G (c.fact 40 rfl)
  range_ := He.free_ok X G (c.fact 41 rfl)
  repr_ := He.free_ok X G (c.fact 42 rfl)
  sorted_ := He.free_ok X G (c.fact 43 rfl)
  sum_ := He.free_ok X G (c.fact 44 rfl)
  MOST_COUNT_ := He.int_ok X G (c.fact 47 rfl)
  MOST_GOOD_LENGTH_ := He.int_ok X G (c.fact 48 rfl)
  MOST_NUMBERS_ := He.int_ok X G (c.fact 46 rfl)
  glo_Lets := He.glo_ok X G (c.fact 3 rfl)
  cls_Lets := He.cls_ok (c.fact 49 rfl)
  ins_Lets := e
  na_Lets__held := He.noat_ok (c.fact 51 rfl)
  na_Lets__start := He.noat_ok (c.fact 52 rfl)
  top_ := trivial
theorem law_of {P : Program} {w : World} {K : PySem.W.Frag} {h : Heap} {mg : Str → Option Value} (X : K.In h) (G : h.Ns mainGlobals mg) (c : He.SaysD fa fn K) (e : ex K = true) :
    ∃ fd : FuncData, (∀ (s : Shared) (u : Value), BindsTo s fd ⟨[u], []⟩ [("script", u)]) ∧ ∀ base : Heap, K.In base → base.Ns mainGlobals mg → FnG P w K mg base 7 (He.ga K "law") fd ["script"] (spLaw K (cls K) F_law) := by
  have fx := fx_of X G c e
  obtain ⟨fd_is_whole, FD_is_whole⟩ := c.def_ 0 (d := d_is_whole) rfl
  obtain ⟨fd_is_between, FD_is_between⟩ := c.def_ 1 (d := d_is_between) rfl
  obtain ⟨fd_check_number, FD_check_number⟩ := c.def_ 2 (d := d_check_number) rfl
  obtain ⟨fd_check_lets, FD_check_lets⟩ := c.def_ 3 (d := d_check_lets) rfl
  obtain ⟨fd_Lets_numbers, FD_Lets_numbers⟩ := c.def_ 33 (d := d_Lets_numbers) rfl
  obtain ⟨fd_Lets_start, FD_Lets_start⟩ := c.def_ 34 (d := d_Lets_start) rfl
  obtain ⟨fd_numbers_to, FD_numbers_to⟩ := c.def_ 4 (d := d_numbers_to) rfl
  obtain ⟨fd_bound_of, FD_bound_of⟩ := c.def_ 5 (d := d_bound_of) rfl
  obtain ⟨fd_Lets_contains, FD_Lets_contains⟩ := c.def_ 35 (d := d_Lets_contains) rfl
  obtain ⟨fd_fault_to, FD_fault_to⟩ := c.def_ 6 (d := d_fault_to) rfl
  obtain ⟨fd_is_good, FD_is_good⟩ := c.def_ 7 (d := d_is_good) rfl
  obtain ⟨fd_good, FD_good⟩ := c.def_ 8 (d := d_good) rfl
  obtain ⟨fd_is_rich, FD_is_rich⟩ := c.def_ 10 (d := d_is_rich) rfl
  obtain ⟨fd_lean, FD_lean⟩ := c.def_ 9 (d := d_lean) rfl
  obtain ⟨fd_fault, FD_fault⟩ := c.def_ 11 (d := d_fault) rfl
  obtain ⟨fd_good_to, FD_good_to⟩ := c.def_ 12 (d := d_good_to) rfl
  obtain ⟨fd_holds_to, FD_holds_to⟩ := c.def_ 13 (d := d_holds_to) rfl
  obtain ⟨fd__law_hash, FD__law_hash⟩ := c.def_ 14 (d := d__law_hash) rfl
  obtain ⟨fd__law_random, FD__law_random⟩ := c.def_ 15 (d := d__law_random) rfl
  obtain ⟨fd__law_cell, FD__law_cell⟩ := c.def_ 16 (d := d__law_cell) rfl
  obtain ⟨fd__law_generator, FD__law_generator⟩ := c.def_ 17 (d := d__law_generator) rfl
  obtain ⟨fd__law_in, FD__law_in⟩ := c.def_ 18 (d := d__law_in) rfl
  obtain ⟨fd__law_set, FD__law_set⟩ := c.def_ 19 (d := d__law_set) rfl
  obtain ⟨fd__law_fault, FD__law_fault⟩ := c.def_ 20 (d := d__law_fault) rfl
  obtain ⟨fd__law_closed, FD__law_closed⟩ := c.def_ 21 (d := d__law_closed) rfl
  obtain ⟨fd__law_good_set, FD__law_good_set⟩ := c.def_ 22 (d := d__law_good_set) rfl
  obtain ⟨fd__law_lean, FD__law_lean⟩ := c.def_ 23 (d := d__law_lean) rfl
  obtain ⟨fd_Lets_eq, FD_Lets_eq⟩ := c.def_ 36 (d := d_Lets_eq) rfl
  obtain ⟨fd_Lets_fill, FD_Lets_fill⟩ := c.def_ 32 (d := d_Lets_fill) rfl
  obtain ⟨fd_Lets_init, FD_Lets_init⟩ := c.def_ 31 (d := d_Lets_init) rfl
  obtain ⟨fd__law_right, FD__law_right⟩ := c.def_ 24 (d := d__law_right) rfl
  obtain ⟨fd__law_great_set, FD__law_great_set⟩ := c.def_ 25 (d := d__law_great_set) rfl
  obtain ⟨fd__law_has, FD__law_has⟩ := c.def_ 26 (d := d__law_has) rfl
  obtain ⟨fd__law_great_fault, FD__law_great_fault⟩ := c.def_ 27 (d := d__law_great_fault) rfl
  obtain ⟨fd__law_great_rich, FD__law_great_rich⟩ := c.def_ 28 (d := d__law_great_rich) rfl
  obtain ⟨fd__law_great_right, FD__law_great_right⟩ := c.def_ 29 (d := d__law_great_right) rfl
  obtain ⟨fd_law, FD_law⟩ := c.def_ 30 (d := d_law) rfl
  have B_is_whole : Binds K fd_is_whole ["value"] [] := FunD.bindsN (ps := ["value"]) FD_is_whole fun _ _ _ _ _ _ us hl => match us, hl with | [_], _ => rfl
  have B_is_between : Binds K fd_is_between ["value", "low", "high"] [] := FunD.bindsN (ps := ["value", "low", "high"]) FD_is_between fun _ _ _ _ _ _ us hl => match us, hl with | [_, _, _], _ => rfl
  have B_check_number : Binds K fd_check_number ["number", "low", "high"] [] := FunD.bindsN (ps := ["number", "low", "high"]) FD_check_number fun _ _ _ _ _ _ us hl => match us, hl with | [_, _, _], _ => rfl
  have B_check_lets : Binds K fd_check_lets ["lets"] [] := FunD.bindsN (ps := ["lets"]) FD_check_lets fun _ _ _ _ _ _ us hl => match us, hl with | [_], _ => rfl
  have B_Lets_numbers : Binds K fd_Lets_numbers ["self"] [] := FunD.bindsN (ps := ["self"]) FD_Lets_numbers fun _ _ _ _ _ _ us hl => match us, hl with | [_], _ => rfl
  have B_Lets_start : Binds K fd_Lets_start ["self"] [] := FunD.bindsN (ps := ["self"]) FD_Lets_start fun _ _ _ _ _ _ us hl => match us, hl with | [_], _ => rfl
  have B_numbers_to : Binds K fd_numbers_to ["lets", "most"] [] := FunD.bindsN (ps := ["lets", "most"]) FD_numbers_to fun _ _ _ _ _ _ us hl => match us, hl with | [_, _], _ => rfl
  have B_bound_of : Binds K fd_bound_of ["lets"] [] := FunD.bindsN (ps := ["lets"]) FD_bound_of fun _ _ _ _ _ _ us hl => match us, hl with | [_], _ => rfl
  have B_Lets_contains : Binds K fd_Lets_contains ["self", "value"] [] := FunD.bindsN (ps := ["self", "value"]) FD_Lets_contains fun _ _ _ _ _ _ us hl => match us, hl with | [_, _], _ => rfl
  have B_fault_to : Binds K fd_fault_to ["lets", "most"] [] := FunD.bindsN (ps := ["lets", "most"]) FD_fault_to fun _ _ _ _ _ _ us hl => match us, hl with | [_, _], _ => rfl
  have B_is_good : Binds K fd_is_good ["lets"] [] := FunD.bindsN (ps := ["lets"]) FD_is_good fun _ _ _ _ _ _ us hl => match us, hl with | [_], _ => rfl
  have B_good : Binds K fd_good ["lets"] [] := FunD.bindsN (ps := ["lets"]) FD_good fun _ _ _ _ _ _ us hl => match us, hl with | [_], _ => rfl
  have B_is_rich : Binds K fd_is_rich ["lets", "numbers", "low"] [] := FunD.bindsN (ps := ["lets", "numbers", "low"]) FD_is_rich fun _ _ _ _ _ _ us hl => match us, hl with | [_, _, _], _ => rfl
  have B_lean : Binds K fd_lean ["lets"] [] := FunD.bindsN (ps := ["lets"]) FD_lean fun _ _ _ _ _ _ us hl => match us, hl with | [_], _ => rfl
  have B_fault : Binds K fd_fault ["lets"] [] := FunD.bindsN (ps := ["lets"]) FD_fault fun _ _ _ _ _ _ us hl => match us, hl with | [_], _ => rfl
  have B_good_to : Binds K fd_good_to ["lets", "length"] [] := FunD.bindsN (ps := ["lets", "length"]) FD_good_to fun _ _ _ _ _ _ us hl => match us, hl with | [_, _], _ => rfl
  have B_holds_to : Binds K fd_holds_to ["lets"] [] := FunD.bindsN (ps := ["lets"]) FD_holds_to fun _ _ _ _ _ _ us hl => match us, hl with | [_], _ => rfl
  have B__law_hash : Binds K fd__law_hash ["seed", "index"] [] := FunD.bindsN (ps := ["seed", "index"]) FD__law_hash fun _ _ _ _ _ _ us hl => match us, hl with | [_, _], _ => rfl
  have B__law_random : Binds K fd__law_random ["generator", "bound"] [] := FunD.bindsN (ps := ["generator", "bound"]) FD__law_random fun _ _ _ _ _ _ us hl => match us, hl with | [_, _], _ => rfl
  have B__law_cell : Binds K fd__law_cell ["script", "index"] [] := FunD.bindsN (ps := ["script", "index"]) FD__law_cell fun _ _ _ _ _ _ us hl => match us, hl with | [_, _], _ => rfl
  have B__law_generator : Binds K fd__law_generator ["script", "index"] [] := FunD.bindsN (ps := ["script", "index"]) FD__law_generator fun _ _ _ _ _ _ us hl => match us, hl with | [_, _], _ => rfl
  have B__law_in : Binds K fd__law_in ["told", "number"] [] := FunD.bindsN (ps := ["told", "number"]) FD__law_in fun _ _ _ _ _ _ us hl => match us, hl with | [_, _], _ => rfl
  have B__law_set : Binds K fd__law_set ["generator", "most"] [] := FunD.bindsN (ps := ["generator", "most"]) FD__law_set fun _ _ _ _ _ _ us hl => match us, hl with | [_, _], _ => rfl
  have B__law_fault : Binds K fd__law_fault ["told", "most"] [] := FunD.bindsN (ps := ["told", "most"]) FD__law_fault fun _ _ _ _ _ _ us hl => match us, hl with | [_, _], _ => rfl
  have B__law_closed : Binds K fd__law_closed ["told", "most"] [] := FunD.bindsN (ps := ["told", "most"]) FD__law_closed fun _ _ _ _ _ _ us hl => match us, hl with | [_, _], _ => rfl
  have B__law_good_set : Binds K fd__law_good_set ["generator"] [] := FunD.bindsN (ps := ["generator"]) FD__law_good_set fun _ _ _ _ _ _ us hl => match us, hl with | [_], _ => rfl
  have B__law_lean : Binds K fd__law_lean ["told", "most"] [] := FunD.bindsN (ps := ["told", "most"]) FD__law_lean fun _ _ _ _ _ _ us hl => match us, hl with | [_, _], _ => rfl
  have B_Lets_eq : Binds K fd_Lets_eq ["self", "other"] [] := FunD.bindsN (ps := ["self", "other"]) FD_Lets_eq fun _ _ _ _ _ _ us hl => match us, hl with | [_, _], _ => rfl
  have B_Lets_fill : Binds K fd_Lets_fill ["self", "numbers", "start"] [] := FunD.bindsN (ps := ["self", "numbers", "start"]) FD_Lets_fill fun _ _ _ _ _ _ us hl => match us, hl with | [_, _, _], _ => rfl
  obtain ⟨dd_Lets_init_0, DD_Lets_init_0, B_Lets_init_0⟩ := FunD.binds1 (ps := ["self", "numbers", "start"]) (dvs := [V.non]) FD_Lets_init 3 1 (by decide) (by decide) fun _ _ _ _ _ _ _ us its h1 h2 => match us, its, h1, h2 with | [_, _, _], [_], _, _ => ⟨_, rfl, rfl⟩
  obtain ⟨dd_Lets_init_1, DD_Lets_init_1, B_Lets_init_1⟩ := FunD.binds1 (ps := ["self", "numbers", "start"]) (dvs := [V.non]) FD_Lets_init 2 0 (by decide) (by decide) fun _ _ _ _ _ _ _ us its h1 h2 => match us, its, h1, h2 with | [_, _], [_], _, _ => ⟨_, rfl, rfl⟩
  have B__law_right : Binds K fd__law_right ["generator"] [] := FunD.bindsN (ps := ["generator"]) FD__law_right fun _ _ _ _ _ _ us hl => match us, hl with | [_], _ => rfl
  have B__law_great_set : Binds K fd__law_great_set ["generator"] [] := FunD.bindsN (ps := ["generator"]) FD__law_great_set fun _ _ _ _ _ _ us hl => match us, hl with | [_], _ => rfl
  have B__law_has : Binds K fd__law_has ["held", "start", "number"] [] := FunD.bindsN (ps := ["held", "start", "number"]) FD__law_has fun _ _ _ _ _ _ us hl => match us, hl with | [_, _, _], _ => rfl
  have B__law_great_fault : Binds K fd__law_great_fault ["held", "start"] [] := FunD.bindsN (ps := ["held", "start"]) FD__law_great_fault fun _ _ _ _ _ _ us hl => match us, hl with | [_, _], _ => rfl
  have B__law_great_rich : Binds K fd__law_great_rich ["held"] [] := FunD.bindsN (ps := ["held"]) FD__law_great_rich fun _ _ _ _ _ _ us hl => match us, hl with | [_], _ => rfl
  have B__law_great_right : Binds K fd__law_great_right ["generator"] [] := FunD.bindsN (ps := ["generator"]) FD__law_great_right fun _ _ _ _ _ _ us hl => match us, hl with | [_], _ => rfl
  have B_law : Binds K fd_law ["script"] [] := FunD.bindsN (ps := ["script"]) FD_law fun _ _ _ _ _ _ us hl => match us, hl with | [_], _ => rfl
  refine ⟨fd_law, fun s u => FunD.bindsA (ps := ["script"]) FD_law (fun _ _ _ _ _ _ us hl => match us, hl with | [_], _ => rfl) s [u] rfl, fun base _ _ => ?_⟩
  have K_is_whole := ok_is_whole (P := P) (w := w) (base := base) fx  FD_is_whole
  have C_is_whole : Callee P w K mg base "is_whole" 1 (spP K (cls K) 1 false F_is_whole) := ⟨_, fd_is_whole, _, K_is_whole, He.glo_ok X G (c.fact 0 rfl), FD_is_whole.kp, B_is_whole⟩
  have K_is_between := ok_is_between (P := P) (w := w) (base := base) fx C_is_whole FD_is_between
  have C_is_between : Callee P w K mg base "is_between" 2 (spP K (cls K) 3 false F_is_between) := ⟨_, fd_is_between, _, K_is_between, He.glo_ok X G (c.fact 1 rfl), FD_is_between.kp, B_is_between⟩
  have K_check_number := ok_check_number (P := P) (w := w) (base := base) fx C_is_between FD_check_number
  have C_check_number : Callee P w K mg base "check_number" 3 (spP K (cls K) 3 false F_check_number) := ⟨_, fd_check_number, _, K_check_number, He.glo_ok X G (c.fact 2 rfl), FD_check_number.kp, B_check_number⟩
  have K_check_lets := ok_check_lets (P := P) (w := w) (base := base) fx  FD_check_lets
  have C_check_lets : Callee P w K mg base "check_lets" 1 (spP K (cls K) 1 false F_check_lets) := ⟨_, fd_check_lets, _, K_check_lets, He.glo_ok X G (c.fact 4 rfl), FD_check_lets.kp, B_check_lets⟩
  have K_Lets_numbers := ok_Lets_numbers (P := P) (w := w) (base := base) fx  FD_Lets_numbers
  have CM_Lets_numbers : CalleeM P w K mg base (cls K 0) "numbers" 1 (spP K (cls K) 1 true F_Lets_numbers) := ⟨_, fd_Lets_numbers, _, K_Lets_numbers, He.meth_ok (c.fact 54 rfl), B_Lets_numbers⟩
  have K_Lets_start := ok_Lets_start (P := P) (w := w) (base := base) fx  FD_Lets_start
  have CM_Lets_start : CalleeM P w K mg base (cls K 0) "start" 1 (spP K (cls K) 1 false F_Lets_start) := ⟨_, fd_Lets_start, _, K_Lets_start, He.meth_ok (c.fact 55 rfl), B_Lets_start⟩
  have K_numbers_to := ok_numbers_to (P := P) (w := w) (base := base) fx CM_Lets_start CM_Lets_numbers FD_numbers_to
  have C_numbers_to : Callee P w K mg base "numbers_to" 2 (spP K (cls K) 2 false F_numbers_to) := ⟨_, fd_numbers_to, _, K_numbers_to, He.glo_ok X G (c.fact 5 rfl), FD_numbers_to.kp, B_numbers_to⟩
  have K_bound_of := ok_bound_of (P := P) (w := w) (base := base) fx CM_Lets_start CM_Lets_numbers FD_bound_of
  have C_bound_of : Callee P w K mg base "bound_of" 2 (spP K (cls K) 1 false F_bound_of) := ⟨_, fd_bound_of, _, K_bound_of, He.glo_ok X G (c.fact 6 rfl), FD_bound_of.kp, B_bound_of⟩
  have K_Lets_contains := ok_Lets_contains (P := P) (w := w) (base := base) fx C_is_whole FD_Lets_contains
  have CM_Lets_contains : CalleeM P w K mg base (cls K 0) "__contains__" 2 (spP K (cls K) 2 false F_Lets_contains) := ⟨_, fd_Lets_contains, _, K_Lets_contains, He.meth_ok (c.fact 56 rfl), B_Lets_contains⟩
  have K_fault_to := ok_fault_to (P := P) (w := w) (base := base) fx C_numbers_to CM_Lets_contains FD_fault_to
  have C_fault_to : Callee P w K mg base "fault_to" 3 (spP K (cls K) 2 false F_fault_to) := ⟨_, fd_fault_to, _, K_fault_to, He.glo_ok X G (c.fact 7 rfl), FD_fault_to.kp, B_fault_to⟩
  have K_is_good := ok_is_good (P := P) (w := w) (base := base) fx C_fault_to C_bound_of FD_is_good
  have C_is_good : Callee P w K mg base "is_good" 4 (spP K (cls K) 1 false F_is_good) := ⟨_, fd_is_good, _, K_is_good, He.glo_ok X G (c.fact 8 rfl), FD_is_good.kp, B_is_good⟩
  have K_good := ok_good (P := P) (w := w) (base := base) fx C_check_lets C_is_good FD_good
  have C_good : Callee P w K mg base "good" 5 (spP K (cls K) 1 false F_good) := ⟨_, fd_good, _, K_good, He.glo_ok X G (c.fact 9 rfl), FD_good.kp, B_good⟩
  have CK_good_lets : CalleeK P w K mg base "good" 5 ["lets"] perm_0 (spP K (cls K) 1 false F_good) := ⟨_, fd_good, ["lets"], K_good, He.glo_ok X G (c.fact 9 rfl), FD_good.kp, kwb FD_good fun _ _ _ _ _ _ ws hl => match ws, hl with | [_], _ => rfl⟩
  have K_is_rich := ok_is_rich (P := P) (w := w) (base := base) fx CM_Lets_contains FD_is_rich
  have C_is_rich : Callee P w K mg base "is_rich" 3 (spP K (cls K) 3 false F_is_rich) := ⟨_, fd_is_rich, _, K_is_rich, He.glo_ok X G (c.fact 11 rfl), FD_is_rich.kp, B_is_rich⟩
  have K_lean := ok_lean (P := P) (w := w) (base := base) fx C_check_lets C_is_rich CM_Lets_start CM_Lets_numbers FD_lean
  have C_lean : Callee P w K mg base "lean" 4 (spP K (cls K) 1 false F_lean) := ⟨_, fd_lean, _, K_lean, He.glo_ok X G (c.fact 10 rfl), FD_lean.kp, B_lean⟩
  have CK_lean_lets : CalleeK P w K mg base "lean" 4 ["lets"] perm_0 (spP K (cls K) 1 false F_lean) := ⟨_, fd_lean, ["lets"], K_lean, He.glo_ok X G (c.fact 10 rfl), FD_lean.kp, kwb FD_lean fun _ _ _ _ _ _ ws hl => match ws, hl with | [_], _ => rfl⟩
  have K_fault := ok_fault (P := P) (w := w) (base := base) fx C_check_lets C_fault_to C_bound_of FD_fault
  have C_fault : Callee P w K mg base "fault" 4 (spP K (cls K) 1 false F_fault) := ⟨_, fd_fault, _, K_fault, He.glo_ok X G (c.fact 12 rfl), FD_fault.kp, B_fault⟩
  have CK_fault_lets : CalleeK P w K mg base "fault" 4 ["lets"] perm_0 (spP K (cls K) 1 false F_fault) := ⟨_, fd_fault, ["lets"], K_fault, He.glo_ok X G (c.fact 12 rfl), FD_fault.kp, kwb FD_fault fun _ _ _ _ _ _ ws hl => match ws, hl with | [_], _ => rfl⟩
  have K_good_to := ok_good_to (P := P) (w := w) (base := base) fx C_check_lets C_check_number C_fault_to C_bound_of FD_good_to
  have C_good_to : Callee P w K mg base "good_to" 4 (spP K (cls K) 2 false F_good_to) := ⟨_, fd_good_to, _, K_good_to, He.glo_ok X G (c.fact 13 rfl), FD_good_to.kp, B_good_to⟩
  have CK_good_to_length_lets : CalleeK P w K mg base "good_to" 4 ["length", "lets"] perm_10 (spP K (cls K) 2 false F_good_to) := ⟨_, fd_good_to, ["lets", "length"], K_good_to, He.glo_ok X G (c.fact 13 rfl), FD_good_to.kp, kwb FD_good_to fun _ _ _ _ _ _ ws hl => match ws, hl with | [_, _], _ => rfl⟩
  have K_holds_to := ok_holds_to (P := P) (w := w) (base := base) fx C_fault FD_holds_to
  have C_holds_to : Callee P w K mg base "holds_to" 5 (spP K (cls K) 1 false F_holds_to) := ⟨_, fd_holds_to, _, K_holds_to, He.glo_ok X G (c.fact 14 rfl), FD_holds_to.kp, B_holds_to⟩
  have CK_holds_to_lets : CalleeK P w K mg base "holds_to" 5 ["lets"] perm_0 (spP K (cls K) 1 false F_holds_to) := ⟨_, fd_holds_to, ["lets"], K_holds_to, He.glo_ok X G (c.fact 14 rfl), FD_holds_to.kp, kwb FD_holds_to fun _ _ _ _ _ _ ws hl => match ws, hl with | [_], _ => rfl⟩
  have K__law_hash := ok__law_hash (P := P) (w := w) (base := base) fx  FD__law_hash
  have C__law_hash : Callee P w K mg base "_law_hash" 1 (spP K (cls K) 2 false F__law_hash) := ⟨_, fd__law_hash, _, K__law_hash, He.glo_ok X G (c.fact 15 rfl), FD__law_hash.kp, B__law_hash⟩
  have K__law_random := ok__law_random (P := P) (w := w) (base := base) fx C__law_hash FD__law_random
  have C__law_random : Callee P w K mg base "_law_random" 2 (spM K (cls K) 2 false F__law_random) := ⟨_, fd__law_random, _, K__law_random, He.glo_ok X G (c.fact 16 rfl), FD__law_random.kp, B__law_random⟩
  have K__law_cell := ok__law_cell (P := P) (w := w) (base := base) fx  FD__law_cell
  have C__law_cell : Callee P w K mg base "_law_cell" 1 (spP K (cls K) 2 false F__law_cell) := ⟨_, fd__law_cell, _, K__law_cell, He.glo_ok X G (c.fact 17 rfl), FD__law_cell.kp, B__law_cell⟩
  have K__law_generator := ok__law_generator (P := P) (w := w) (base := base) fx C__law_cell FD__law_generator
  have C__law_generator : Callee P w K mg base "_law_generator" 2 (spP K (cls K) 2 true F__law_generator) := ⟨_, fd__law_generator, _, K__law_generator, He.glo_ok X G (c.fact 18 rfl), FD__law_generator.kp, B__law_generator⟩
  have K__law_in := ok__law_in (P := P) (w := w) (base := base) fx  FD__law_in
  have C__law_in : Callee P w K mg base "_law_in" 1 (spP K (cls K) 2 false F__law_in) := ⟨_, fd__law_in, _, K__law_in, He.glo_ok X G (c.fact 19 rfl), FD__law_in.kp, B__law_in⟩
  have K__law_set := ok__law_set (P := P) (w := w) (base := base) fx C__law_random FD__law_set
  have C__law_set : Callee P w K mg base "_law_set" 3 (spM K (cls K) 2 false F__law_set) := ⟨_, fd__law_set, _, K__law_set, He.glo_ok X G (c.fact 20 rfl), FD__law_set.kp, B__law_set⟩
  have K__law_fault := ok__law_fault (P := P) (w := w) (base := base) fx C__law_in FD__law_fault
  have C__law_fault : Callee P w K mg base "_law_fault" 2 (spP K (cls K) 2 false F__law_fault) := ⟨_, fd__law_fault, _, K__law_fault, He.glo_ok X G (c.fact 21 rfl), FD__law_fault.kp, B__law_fault⟩
  have K__law_closed := ok__law_closed (P := P) (w := w) (base := base) fx C__law_in FD__law_closed
  have C__law_closed : Callee P w K mg base "_law_closed" 2 (spP K (cls K) 2 true F__law_closed) := ⟨_, fd__law_closed, _, K__law_closed, He.glo_ok X G (c.fact 22 rfl), FD__law_closed.kp, B__law_closed⟩
  have K__law_good_set := ok__law_good_set (P := P) (w := w) (base := base) fx C__law_random C__law_set C__law_closed FD__law_good_set
  have C__law_good_set : Callee P w K mg base "_law_good_set" 4 (spM K (cls K) 1 false F__law_good_set) := ⟨_, fd__law_good_set, _, K__law_good_set, He.glo_ok X G (c.fact 23 rfl), FD__law_good_set.kp, B__law_good_set⟩
  have K__law_lean := ok__law_lean (P := P) (w := w) (base := base) fx C__law_in FD__law_lean
  have C__law_lean : Callee P w K mg base "_law_lean" 2 (spP K (cls K) 2 false F__law_lean) := ⟨_, fd__law_lean, _, K__law_lean, He.glo_ok X G (c.fact 24 rfl), FD__law_lean.kp, B__law_lean⟩
  have K_Lets_eq := ok_Lets_eq (P := P) (w := w) (base := base) fx CM_Lets_numbers CM_Lets_start FD_Lets_eq
  have CM_Lets_eq : CalleeM P w K mg base (cls K 0) "__eq__" 2 (spP K (cls K) 2 false F_Lets_eq) := ⟨_, fd_Lets_eq, _, K_Lets_eq, He.meth_ok (c.fact 57 rfl), B_Lets_eq⟩
  have K_Lets_fill := ok_Lets_fill (P := P) (w := w) (base := base) fx  FD_Lets_fill
  have CM_Lets_fill : CalleeM P w K mg base (cls K 0) "_fill" 1 (spM K (cls K) 3 false F_Lets_fill) := ⟨_, fd_Lets_fill, _, K_Lets_fill, He.meth_ok (c.fact 53 rfl), B_Lets_fill⟩
  have K_Lets_init := ok_Lets_init (P := P) (w := w) (base := base) fx C_is_between CM_Lets_fill FD_Lets_init
  have CC_Lets_0 : CalleeC P w K mg base (cls K) (cls K 0) "Lets" 3 [] (spM K (cls K) 3 false F_Lets_init) := ⟨_, fd_Lets_init, _, dd_Lets_init_0, K_Lets_init, He.mkr_ok (c.fact 50 rfl), fx.glo_Lets, B_Lets_init_0, DD_Lets_init_0⟩
  have CC_Lets_1 : CalleeC P w K mg base (cls K) (cls K 0) "Lets" 3 [V.non] (spM K (cls K) 3 false F_Lets_init) := ⟨_, fd_Lets_init, _, dd_Lets_init_1, K_Lets_init, He.mkr_ok (c.fact 50 rfl), fx.glo_Lets, B_Lets_init_1, DD_Lets_init_1⟩
  have K__law_right := ok__law_right (P := P) (w := w) (base := base) fx C__law_set C__law_random C__law_good_set C__law_fault C_fault C_good C_lean C__law_lean C_holds_to C_good_to CM_Lets_eq CC_Lets_0 CK_fault_lets CK_good_lets CK_lean_lets CK_holds_to_lets CK_good_to_length_lets FD__law_right
  have C__law_right : Callee P w K mg base "_law_right" 6 (spM K (cls K) 1 false F__law_right) := ⟨_, fd__law_right, _, K__law_right, He.glo_ok X G (c.fact 25 rfl), FD__law_right.kp, B__law_right⟩
  have K__law_great_set := ok__law_great_set (P := P) (w := w) (base := base) fx C__law_random FD__law_great_set
  have C__law_great_set : Callee P w K mg base "_law_great_set" 3 (spM K (cls K) 1 false F__law_great_set) := ⟨_, fd__law_great_set, _, K__law_great_set, He.glo_ok X G (c.fact 26 rfl), FD__law_great_set.kp, B__law_great_set⟩
  have K__law_has := ok__law_has (P := P) (w := w) (base := base) fx  FD__law_has
  have C__law_has : Callee P w K mg base "_law_has" 1 (spP K (cls K) 3 false F__law_has) := ⟨_, fd__law_has, _, K__law_has, He.glo_ok X G (c.fact 27 rfl), FD__law_has.kp, B__law_has⟩
  have K__law_great_fault := ok__law_great_fault (P := P) (w := w) (base := base) fx C__law_has FD__law_great_fault
  have C__law_great_fault : Callee P w K mg base "_law_great_fault" 2 (spP K (cls K) 2 false F__law_great_fault) := ⟨_, fd__law_great_fault, _, K__law_great_fault, He.glo_ok X G (c.fact 28 rfl), FD__law_great_fault.kp, B__law_great_fault⟩
  have K__law_great_rich := ok__law_great_rich (P := P) (w := w) (base := base) fx  FD__law_great_rich
  have C__law_great_rich : Callee P w K mg base "_law_great_rich" 1 (spP K (cls K) 1 false F__law_great_rich) := ⟨_, fd__law_great_rich, _, K__law_great_rich, He.glo_ok X G (c.fact 29 rfl), FD__law_great_rich.kp, B__law_great_rich⟩
  have K__law_great_right := ok__law_great_right (P := P) (w := w) (base := base) fx C__law_great_set C__law_great_fault C__law_great_rich C_fault C_good C_lean C_holds_to C_good_to CC_Lets_0 FD__law_great_right
  have C__law_great_right : Callee P w K mg base "_law_great_right" 6 (spM K (cls K) 1 false F__law_great_right) := ⟨_, fd__law_great_right, _, K__law_great_right, He.glo_ok X G (c.fact 30 rfl), FD__law_great_right.kp, B__law_great_right⟩
  have K_law := ok_law (P := P) (w := w) (base := base) fx C__law_right C__law_generator C__law_great_right C_fault C_lean C_good_to C_holds_to C_good CC_Lets_0 CC_Lets_1 FD_law
  exact K_law
end As
open PySem PySem.W PySem.Calls PyProof.Rows
/-- the law, from what its def computes of every script -/
theorem holds_of (all : ∀ ns : List Int, ns.length ≤ 63 → Dv.F_law [.scr ns] = .ok (.bl true)) : PySem.Challenge.rw_voicerows_k10_whole_good_and_lean_sets.Holds := by
  w_on; o_law
  refine HandSHeadRun.head_any (r := OpenLaw.row PySem.Challenge.rw_voicerows_k10_whole_good_and_lean_sets) (q := view (OpenLaw.row PySem.Challenge.rw_voicerows_k10_whole_good_and_lean_sets).prog [42]) (H := Hd.hk) (ob := Hd.ob) (M := 8000) (loose := Hd.loose) (d := HandSHeadRun.topDef (OpenLaw.row PySem.Challenge.rw_voicerows_k10_whole_good_and_lean_sets).prog 42) (kwd := []) Hd.ob_eq
    (by kernel_rfl) (fun s => by kernel_rfl) Hd.run (by kernel_rfl) (by kernel_rfl) (by kernel_rfl) (by rfl) (by first | assumption | decide +kernel) (by decide +kernel) ⟨rfl, rfl, rfl, rfl, rfl, by decide +kernel⟩ ?hw ?hc
  case hw => w_witness2
  case hc =>
    refine Vx.law_end (l := PySem.Challenge.rw_voicerows_k10_whole_good_and_lean_sets) (n := 63) (k := 7) (x := "script") rfl (by decide) (by kernel_rfl) ⟨rfl, by decide, by decide⟩ (by rfl) ?F
    intro w mg fa h Y G hmg0
    obtain ⟨K, KX, c, e⟩ := Y
    have hmg : mg ("law" : PySem.Str) = some (.ref fa) := by
      have e : (HandSHeadRun.topDef (OpenLaw.row PySem.Challenge.rw_voicerows_k10_whole_good_and_lean_sets).prog 42).name = ("law" : PySem.Str) := by kernel_rfl
      rw [← e]
      exact hmg0
    obtain ⟨fd, hb, hF⟩ := As.law_of (P := (PySem.Challenge.rw_voicerows_k10_whole_good_and_lean_sets).prog) (w := w) KX G c e
    cases hmg.symm.trans (He.glo_ok KX G (c.fact 31 (f := .glo "law") rfl))
    exact ⟨K, fd, As.cls K, Dv.F_law, KX, hb, all, hF⟩
end
section
set_option maxRecDepth 100000
set_option maxHeartbeats 1000000
set_option exponentiation.threshold 1000
/-! Ev: the meanings, worked out on data that are known in part. -/
namespace Ev
open PySem PySem.Spec L2 Vx
open Out (guard)

theorem log2_small {n k : Nat} (h : n < 2 ^ k) (hk : 0 < k) : n.log2 < k := by
  by_cases h0 : n = 0
  · subst h0; simpa using hk
  · exact (Nat.log2_lt h0).mpr h
theorem mul_ok {i j : Int} (hi : i.natAbs < 2 ^ 300) (hj : j.natAbs < 2 ^ 300) : mulD (.int i) (.int j) = .ok (.int (i * j)) := by
  have a := log2_small hi (by decide)
  have b := log2_small hj (by decide)
  show guard (decide (i.natAbs.log2 + j.natAbs.log2 < 1000000)) _ = _
  exact Out.guard_of (by rw [decide_eq_true_eq]; omega)
@[simp] theorem add_ok (i j : Int) : addD (.int i) (.int j) = .ok (.int (i + j)) := id rfl
@[simp] theorem sub_ok (i j : Int) : subD (.int i) (.int j) = .ok (.int (i - j)) := id rfl
theorem div_ok {i j : Int} (h : 0 < j) (hj : j.natAbs < 2 ^ 300) : divD (.int i) (.int j) = .ok (.int (i / j)) := by
  have b := log2_small hj (by decide)
  exact Out.guard_of (by rw [decide_eq_true_eq]; exact ⟨h, by omega⟩)
@[simp] theorem mod_ok {i j : Int} (h : 0 < j) : modD (.int i) (.int j) = .ok (.int (i % j)) := Out.guard_of (by rw [decide_eq_true_eq]; exact h)
@[simp] theorem lt_ok (i j : Int) : ltD (.int i) (.int j) = .ok (.bl (decide (i < j))) := id rfl
@[simp] theorem le_ok (i j : Int) : leD (.int i) (.int j) = .ok (.bl (decide (i ≤ j))) := id rfl
@[simp] theorem gt_ok (i j : Int) : gtD (.int i) (.int j) = .ok (.bl (decide (j < i))) := id rfl
@[simp] theorem ge_ok (i j : Int) : geD (.int i) (.int j) = .ok (.bl (decide (j ≤ i))) := id rfl
@[simp] theorem toB_bl (b : Bool) : toB (.bl b) = .ok b := id rfl
@[simp] theorem one1_int (i : Int) : one1 intD [.int i] = .ok (.int i) := id rfl
@[simp] theorem getV_cons0 (d : D) (r : PEnv) : getV (some d :: r) 0 = .ok d := id rfl
@[simp] theorem getV_succ (o : Option D) (r : PEnv) (n : Nat) : getV (o :: r) (n + 1) = getV r n := id rfl
@[simp] theorem viewA_nil : viewA [] = [] := id rfl
@[simp] theorem viewA_cons (c : Cell) (ρ : Vx.Env) : viewA (c :: ρ) = c.all :: viewA ρ := id rfl
@[simp] theorem viewS_nil : viewS [] = [] := id rfl
@[simp] theorem viewS_cons (c : Cell) (ρ : Vx.Env) : viewS (c :: ρ) = c.shared :: viewS ρ := id rfl
@[simp] theorem all_sh (d : D) : (Cell.sh d).all = some d := id rfl
@[simp] theorem all_ow (d : D) : (Cell.ow d).all = some d := id rfl
@[simp] theorem all_io (d : D) : (Cell.io d).all = some d := id rfl
@[simp] theorem shared_sh (d : D) : (Cell.sh d).shared = some d := id rfl
@[simp] theorem flatE_ok {m : PEnv → Out D} {ρ : Vx.Env} {d : D} (h : m (viewA ρ) = .ok d) (hs : scalar d = true) : flatE m ρ = .ok d ρ := by
  unfold flatE; rw [h]; simp only [hs, if_true]
theorem flatB_ok {m : PEnv → Out Bool} {ρ : Vx.Env} {b : Bool} (h : m (viewA ρ) = .ok b) : Vx.flatB m ρ = .ok b ρ := by
  unfold Vx.flatB; rw [h]
@[simp] theorem scalar_int (i : Int) : scalar (.int i) = true := id rfl
@[simp] theorem scalar_bl (i : Bool) : scalar (.bl i) = true := id rfl
@[simp] theorem scalar_non : scalar .non = true := id rfl
@[simp] theorem scalar_str (i : Str) : scalar (.str i) = true := id rfl
@[simp] theorem isIo_sh (d : D) : isIo (some (.sh d)) = false := id rfl
@[simp] theorem isIo_ow (d : D) : isIo (some (.ow d)) = false := id rfl
@[simp] theorem isIo_no : isIo (some .no) = false := id rfl
theorem setC_eq {ρ : Vx.Env} {i : Nat} {c : Cell} (h : isIo ρ[i]? = false) : setC ρ i c = some (ρ.set i c) := by
  unfold setC; rw [h]; rfl
@[simp] theorem guard_dec {c : Prop} [Decidable c] {α : Type} {o : Out α} (h : c) : guard (decide c) o = o := Out.guard_of (decide_eq_true h)

/-! ### comprehensions -/
theorem compL_ok {f : D → Out (Option D)} {g : D → Option D} : ∀ {ds : List D}, (∀ d ∈ ds, f d = .ok (g d)) → compL f ds = .ok (ds.filterMap g)
  | [], _ => rfl
  | d :: ds, h => by
    have h1 := h d List.mem_cons_self
    have h2 := compL_ok (ds := ds) fun e he => h e (List.mem_cons_of_mem _ he)
    show (match f d with | .ok o => (compL f ds).bind fun r => .ok (o.toList ++ r) | _ => .stuck) = _
    rw [h1, h2]
    show Out.ok ((g d).toList ++ ds.filterMap g) = _
    rw [List.filterMap_cons]
    cases g d <;> rfl
theorem lcP_ok {mi : PEnv → Out (List D)} {fg : D → PEnv → Out PEnv} {mt : PEnv → Out Bool} {me : PEnv → Out D} {vs : List Nat} {ρ : PEnv} {ds : List D} {g : D → Option D} (hi : mi ρ = .ok ds) (hz : ds.length ≤ sizeLine)
    (h : ∀ d ∈ ds, compF fg mt me (wipeV ρ vs) d = .ok (g d)) : lcP mi fg mt me vs ρ = .ok (.lst (ds.filterMap g)) := by
  unfold lcP compD
  rw [hi, Out.bind_ok, Out.guard_of (decide_eq_true hz), compL_ok h]
  rfl
/-- of whole numbers that pass a test -/
theorem lcP_filter {mi : PEnv → Out (List D)} {fg : D → PEnv → Out PEnv} {mt : PEnv → Out Bool} {me : PEnv → Out D} {vs : List Nat} {ρ : PEnv} {ns : List Int} {p : Int → Bool} (hi : mi ρ = .ok (ns.map .int)) (hz : ns.length ≤ sizeLine)
    (h : ∀ n ∈ ns, ∃ ρ2, fg (.int n) (wipeV ρ vs) = .ok ρ2 ∧ mt ρ2 = .ok (p n) ∧ (p n = true → me ρ2 = .ok (.int n))) : lcP mi fg mt me vs ρ = .ok (.lst ((ns.filter p).map .int)) := by
  have e := lcP_ok (me := me) (mt := mt) (fg := fg) (vs := vs) (g := fun d => match d with | .int n => if p n = true then some (.int n) else none | _ => none) hi (by rw [List.length_map]; exact hz) (fun d hd => by
    obtain ⟨n, hn, rfl⟩ := List.mem_map.mp hd
    obtain ⟨ρ2, h1, h2, h3⟩ := h n hn
    unfold compF
    rw [h1, Out.bind_ok, h2, Out.bind_ok]
    cases q : p n with
    | true => rw [if_pos rfl, h3 q]; simp [q]
    | false => simp [q])
  rw [e]
  congr 2
  clear e hi hz h
  induction ns with
  | nil => rfl
  | cons n ns ih =>
    rw [List.map_cons, List.filterMap_cons, List.filter_cons]
    cases q : p n with
    | true => simp only [q, if_true, List.map_cons]; rw [ih]
    | false => simp only [q, if_false, Bool.false_eq_true]; exact ih
/-- one turn of a comprehension that changes things -/
def turn (f : D → Vx.Env → Option Vx.Env) (mt : Vx.Env → Res Bool) (me : Vx.Env → Res D) (vs : List Nat) (d : D) (ρ : Vx.Env) : Res (Option D) := match f d ρ with
  | some ρ2 => (match mt ρ2 with
    | .ok true ρ3 => (match me ρ3 with
      | .ok e ρ4 => (match wipeO vs ρ4 with
        | some ρ5 => .ok (some e) ρ5
        | none => .stuck)
      | _ => .stuck)
    | .ok false ρ3 => (match wipeO vs ρ3 with
      | some ρ5 => .ok none ρ5
      | none => .stuck)
    | _ => .stuck)
  | none => .stuck
theorem lcGo_turn {f : D → Vx.Env → Option Vx.Env} {mt : Vx.Env → Res Bool} {me : Vx.Env → Res D} {vs : List Nat} {d : D} {ds es : List D} {ρ ρ5 ρ6 : Vx.Env} {o : Option D} (h : turn f mt me vs d ρ = .ok o ρ5) (q5 : lcGo f mt me vs ds ρ5 = .ok es ρ6) :
    lcGo f mt me vs (d :: ds) ρ = .ok (o.toList ++ es) ρ6 := by
  unfold turn at h
  split at h
  · rename_i ρ2 q1
    split at h
    · rename_i ρ3 q2
      split at h
      · rename_i e ρ4 q3
        split at h
        · rename_i ρ7 q4
          cases h
          unfold lcGo
          simp only [q1, q2, q3, q4, q5]
          rfl
        · cases h
      · cases h
    · rename_i ρ3 q2
      split at h
      · rename_i ρ7 q4
        cases h
        unfold lcGo
        simp only [q1, q2, q4, q5]
        rfl
      · cases h
    · cases h
  · cases h
inductive All2 {α β : Type} (R : α → β → Prop) : List α → List β → Prop
  | nil : All2 R [] []
  | cons {a : α} {b : β} {as : List α} {bs : List β} : R a b → All2 R as bs → All2 R (a :: as) (b :: bs)
/-- a comprehension under an invariant that counts its turns -/
theorem lcGo_inv {f : D → Vx.Env → Option Vx.Env} {mt : Vx.Env → Res Bool} {me : Vx.Env → Res D} {vs : List Nat} {I : Nat → Vx.Env → Prop} {Good : D → Option D → Prop} : ∀ {ds : List D} {n : Nat} {ρ : Vx.Env}, I (ds.length + n) ρ →
    (∀ d ∈ ds, ∀ k ρ, I (k + 1) ρ → ∃ o ρ5, turn f mt me vs d ρ = .ok o ρ5 ∧ I k ρ5 ∧ Good d o) → ∃ (os : List (Option D)) (ρ' : Vx.Env), lcGo f mt me vs ds ρ = .ok (os.filterMap id) ρ' ∧ I n ρ' ∧ All2 Good ds os
  | [], n, ρ, hI, _ => ⟨[], ρ, rfl, by simpa using hI, .nil⟩
  | d :: ds, n, ρ, hI, h => by
    obtain ⟨o, ρ5, h1, h2, h3⟩ := h d List.mem_cons_self (ds.length + n) ρ (by rw [List.length_cons] at hI; rw [show ds.length + n + 1 = ds.length + 1 + n by omega]; exact hI)
    obtain ⟨os, ρ', h4, h5, h6⟩ := lcGo_inv h2 fun e he => h e (List.mem_cons_of_mem _ he)
    refine ⟨o :: os, ρ', ?_, h5, .cons h3 h6⟩
    rw [lcGo_turn h1 h4, List.filterMap_cons]
    cases o <;> rfl

theorem lcE_inv {mi : Vx.Env → Res (List D)} {f : D → Vx.Env → Option Vx.Env} {mt : Vx.Env → Res Bool} {me : Vx.Env → Res D} {vs : List Nat} {I : Nat → Vx.Env → Prop} {Good : D → Option D → Prop} {ds : List D} {n : Nat} {ρ ρ1 ρ2 : Vx.Env} (hi : mi ρ = .ok ds ρ1) (hw : wipeO vs ρ1 = some ρ2) (hz : ds.length ≤ sizeLine) (hI : I (ds.length + n) ρ2)
    (h : ∀ d ∈ ds, ∀ k ρ, I (k + 1) ρ → ∃ o ρ5, turn f mt me vs d ρ = .ok o ρ5 ∧ I k ρ5 ∧ Good d o) : ∃ (os : List (Option D)) (ρ' : Vx.Env), lcE mi f mt me vs ρ = .ok (.lst (os.filterMap id)) ρ' ∧ I n ρ' ∧ All2 Good ds os := by
  obtain ⟨os, ρ', h1, h2, h3⟩ := lcGo_inv hI h
  refine ⟨os, ρ', ?_, h2, h3⟩
  unfold lcE
  rw [hi]
  simp only [hw, if_pos hz, h1]

/-! ### loops -/
theorem forL_rel {σ : Type} {f : D → Vx.Env → Option Vx.Env} {body : Vx.Env → SRes} {R : σ → Vx.Env → Prop} {step : σ → D → σ} : ∀ {ds : List D} {s : σ} {ρ : Vx.Env}, R s ρ →
    (∀ d ∈ ds, ∀ s ρ, R s ρ → ∃ ρ1 ρ2, f d ρ = some ρ1 ∧ body ρ1 = .nx ρ2 ∧ R (step s d) ρ2) → ∃ ρ', forL f body ds ρ = .nx ρ' ∧ R (ds.foldl step s) ρ'
  | [], s, ρ, hR, _ => ⟨ρ, rfl, hR⟩
  | d :: ds, s, ρ, hR, h => by
    obtain ⟨ρ1, ρ2, h1, h2, h3⟩ := h d List.mem_cons_self s ρ hR
    obtain ⟨ρ', h4, h5⟩ := forL_rel h3 fun e he => h e (List.mem_cons_of_mem _ he)
    refine ⟨ρ', ?_, h5⟩
    unfold forL
    rw [h1, orStuck_some, h2]
    exact h4
/-- .. that may be left by return -/
theorem forL_find {f : D → Vx.Env → Option Vx.Env} {body : Vx.Env → SRes} {I : Vx.Env → Prop} {p : D → Option D} : ∀ {ds : List D} {ρ : Vx.Env}, I ρ →
    (∀ d ∈ ds, ∀ ρ, I ρ → ∃ ρ1 ρ2, f d ρ = some ρ1 ∧ I ρ2 ∧ body ρ1 = (match p d with | some r => .rt r ρ2 | none => .nx ρ2)) → ∃ ρ', I ρ' ∧ forL f body ds ρ = (match ds.findSome? p with | some r => .rt r ρ' | none => .nx ρ')
  | [], ρ, hI, _ => ⟨ρ, hI, rfl⟩
  | d :: ds, ρ, hI, h => by
    obtain ⟨ρ1, ρ2, h1, h2, h3⟩ := h d List.mem_cons_self ρ hI
    unfold forL
    rw [h1, orStuck_some, h3, List.findSome?_cons]
    cases q : p d with
    | some r => exact ⟨ρ2, h2, rfl⟩
    | none =>
      obtain ⟨ρ', h4, h5⟩ := forL_find h2 fun e he => h e (List.mem_cons_of_mem _ he)
      exact ⟨ρ', h4, h5⟩
theorem rng_ints {i j : Int} (h : -(2 ^ 62) ≤ i ∧ i < 2 ^ 62 ∧ -(2 ^ 62) ≤ j ∧ j < 2 ^ 62) : rng2 [.int i, .int j] = .ok (((List.range (j - i).toNat).map fun k : Nat => i + (k : Int)).map .int) := by
  show guard (decide (-(2 ^ 62) ≤ i ∧ i < 2 ^ 62 ∧ -(2 ^ 62) ≤ j ∧ j < 2 ^ 62)) (.ok (rangeD i (j - i).toNat)) = _
  rw [Out.guard_of (decide_eq_true h)]
  unfold rangeD
  rw [List.map_map]
  rfl
end Ev
end
section
set_option maxRecDepth 100000
set_option maxHeartbeats 1000000
set_option exponentiation.threshold 1000
namespace Ma
open PySem PySem.Spec L2 Vx Dv Ev
open Out (guard)
theorem emod_bnd (a : Int) {m : Int} (h : 0 < m) : 0 ≤ a % m ∧ a % m < m := ⟨Int.emod_nonneg a (by omega), Int.emod_lt_of_pos a h⟩
theorem sq_bnd {a : Int} (h : 0 ≤ a ∧ a < 2 ^ 40) : (a * a).natAbs < 2 ^ 300 := by
  have h1 : (a * a).natAbs = a.natAbs * a.natAbs := Int.natAbs_mul a a
  have h2 : a.natAbs < 2 ^ 40 := by omega
  have h3 : a.natAbs * a.natAbs < 2 ^ 40 * 2 ^ 40 := Nat.mul_lt_mul'' h2 h2
  omega
theorem hash_ok {s i : Int} (hs : 0 ≤ s ∧ s < 2 ^ 40) (hi : 0 ≤ i ∧ i < 2 ^ 40) : ∃ r, F__law_hash [.int s, .int i] = .ok (.int r) ∧ 0 ≤ r ∧ r < 2147483647 := by
  have e1 : mulD (.int s) (.int 1140671) = .ok (.int (s * 1140671)) := mul_ok (by omega) (by decide)
  have e2 : mulD (.int 27644437) (.int i) = .ok (.int (27644437 * i)) := mul_ok (by decide) (by omega)
  have e3 : mulD (.int (27644437 * i)) (.int i) = .ok (.int (27644437 * i * i)) := mul_ok (by omega) (by omega)
  have e4 : mulD (.int 131) (.int i) = .ok (.int (131 * i)) := mul_ok (by decide) (by omega)
  have e5 : mulD (.int 62089) (.int i) = .ok (.int (62089 * i)) := mul_ok (by decide) (by omega)
  have b1 := emod_bnd (s * 1140671 + 27644437 * i * i + 131 * i + 19) (m := 2147483629) (by decide)
  have s1 : F__law_hash [.int s, .int i] = F__law_hash [.int s, .int i] := rfl
  generalize hm : (s * 1140671 + 27644437 * i * i + 131 * i + 19) % 2147483629 = m1 at b1
  have e6 : mulD (.int m1) (.int m1) = .ok (.int (m1 * m1)) := mul_ok (by omega) (by omega)
  have b2 := emod_bnd (m1 * m1 + 62089 * i + 32416187) (m := 2147483587) (by decide)
  generalize hm2 : (m1 * m1 + 62089 * i + 32416187) % 2147483587 = m2 at b2
  have e7 : mulD (.int m2) (.int 48271) = .ok (.int (m2 * 48271)) := mul_ok (by omega) (by decide)
  refine ⟨(m2 * 48271) % 2147483647, ?_, emod_bnd _ (by decide)⟩
  simp [F__law_hash, M__law_hash, cells, flatE, setC_eq, outP, e1, e2, e3, e4, e5, e6, e7, hm, hm2]
/-- the law's generator -/
def gen (a s c : Int) : D := .lst [.int a, .int s, .int c]
@[simp] theorem gen0 (a s c : Int) : ixD (gen a s c) (.int 0) = .ok (.int a) := id rfl
@[simp] theorem gen1 (a s c : Int) : ixD (gen a s c) (.int 1) = .ok (.int s) := id rfl
@[simp] theorem gen2 (a s c : Int) : ixD (gen a s c) (.int 2) = .ok (.int c) := id rfl
theorem setM_gen0 {a s c x : Int} {r : Vx.Env} : setM 0 (.int x) (.int 0) (.io (gen a s c) :: r) = .nx (.io (gen x s c) :: r) := rfl
theorem setM_gen2 {a s c x : Int} {r : Vx.Env} : setM 0 (.int x) (.int 2) (.io (gen a s c) :: r) = .nx (.io (gen a s x) :: r) := rfl
@[simp] theorem getO_io (d : D) (r : Vx.Env) : getO (.io d :: r) 0 = some d := id rfl
@[simp] theorem isLst_gen (a s c : Int) : isLst (some (gen a s c)) = true := id rfl
/-- a generator in good order, n draws at most behind it -/
structure GenOk (s c : Int) (n : Nat) : Prop where
  s0 : 0 ≤ s
  s1 : s < 2 ^ 31
  c0 : 0 ≤ c
  c1 : c + n < 2 ^ 39
theorem bits_small {b : Int} (h : 0 < b ∧ b < 2 ^ 29) : ((Builtin.Int.intBits b : Nat) : Int) / 30 = 0 := by
  have h1 : Builtin.Int.intBits b ≤ 29 := intBits_le_iff.mpr (by omega)
  omega
theorem rng_one : rng1 [.int 1] = .ok [.int 0] := rfl
theorem mul_zero : mulD (.int 0) (.int 2147483587) = .ok (.int 0) := by
  have := mul_ok (i := 0) (j := 2147483587) (by decide) (by decide)
  simpa using this
theorem rand_ok {a s c b : Int} {n : Nat} (g : GenOk s c (n + 1)) (hb : 0 < b ∧ b < 2 ^ 29) :
    ∃ r a' c', F__law_random (gen a s c) [.int b] = .ok (.int r, gen a' s c') ∧ 0 ≤ r ∧ r < b ∧ GenOk s c' n := by
  obtain ⟨s0, s1, c0, c1⟩ := g
  by_cases ha : 0 < a
  · refine ⟨a % b, a / b, c, ?_, (emod_bnd a hb.1).1, (emod_bnd a hb.1).2, ⟨s0, s1, c0, by omega⟩⟩
    have e1 : divD (.int a) (.int b) = .ok (.int (a / b)) := div_ok hb.1 (by omega)
    have e2 : modD (.int a) (.int b) = .ok (.int (a % b)) := mod_ok hb.1
    simp [F__law_random, M__law_random, cellsM, flatE, Vx.flatB, setC_eq, outM, e1, e2, ha, setM_gen0]
  · obtain ⟨h, h1, h2, h3⟩ := hash_ok (s := s) (i := c + 1) ⟨s0, by omega⟩ ⟨by omega, by omega⟩
    have e0 := bits_small hb
    have e1 : divD (.int (Builtin.Int.intBits b : Nat)) (.int 30) = .ok (.int ((Builtin.Int.intBits b : Nat) / 30)) := div_ok (by decide) (by decide)
    have e2 : modD (.int h) (.int b) = .ok (.int (h % b)) := mod_ok hb.1
    have e3 := rng_one
    have e4 := mul_zero
    refine ⟨h % b, a, c + 1, ?_, (emod_bnd h hb.1).1, (emod_bnd h hb.1).2, ⟨s0, s1, by omega, by omega⟩⟩
    simp [F__law_random, M__law_random, cellsM, flatE, Vx.flatB, flatI, setC_eq, outM, e0, e1, e2, e3, e4, ha, forL, fb1__law_random, setM_gen2, h1]
end Ma
end
section
set_option maxRecDepth 100000
set_option maxHeartbeats 1000000
set_option exponentiation.threshold 1000
namespace Ma
open PySem PySem.Spec L2 Vx Dv Ev
open Out (guard)
theorem len_scr (ns : List Int) : one1 lenD [.scr ns] = .ok (.int ns.length) := id rfl
theorem sum_ints (ns : List Int) : one1 sumD [.lst (ns.map .int)] = .ok (.int ns.sum) := by
  show sumD (.lst (ns.map .int)) = _
  unfold sumD
  show (Out.ok (ns.map D.int)).bind _ = _
  rw [Out.bind_ok, ints?_map]
  rfl
theorem cut_ints (ns : List Int) (lo hi : Option Int) : cutD (ns.map .int) lo hi = ((ns.drop (HT.sIx ns.length 0 lo)).take (HT.sIx ns.length ns.length hi - HT.sIx ns.length 0 lo)).map .int := by
  unfold cutD
  rw [List.length_map, List.map_take, List.map_drop]
theorem sl_scr (ns : List Int) (lo hi : Option Int) : slD (.scr ns) lo hi = .ok (.lst (((ns.drop (HT.sIx ns.length 0 lo)).take (HT.sIx ns.length ns.length hi - HT.sIx ns.length 0 lo)).map .int)) := by
  show (Out.ok (ns.map D.int)).bind _ = _
  rw [Out.bind_ok, cut_ints]
theorem sl_scr' (ns : List Int) (lo hi : Option Int) : ∃ xs : List Int, slD (.scr ns) lo hi = .ok (.lst (xs.map .int)) := ⟨_, sl_scr ns lo hi⟩
theorem cell_ok (ns : List Int) {i : Int} (h : 0 ≤ i) : ∃ x, F__law_cell [.scr ns, .int i] = .ok (.int x) := by
  by_cases hi : i < ns.length
  · obtain ⟨x, hx⟩ : ∃ x, atI ns i = some x := by
      unfold atI ixN
      rw [if_pos h, if_pos hi]
      show ∃ x, ns[i.toNat]? = some x
      exact ⟨ns[i.toNat]'(by omega), List.getElem?_eq_getElem _⟩
    have e1 : ixD (.scr ns) (.int i) = .ok (.int x) := by
      show Out.ofOpt ((atI ns i).map D.int) = _
      rw [hx]; rfl
    exact ⟨x, by simp [F__law_cell, M__law_cell, cells, flatE, Vx.flatB, outP, len_scr, hi, e1]⟩
  · obtain ⟨xs, hx⟩ := sl_scr' ns none (some 1)
    refine ⟨xs.sum % 1000003, ?_⟩
    have e1 : toI (.int 1) = .ok (some 1) := id rfl
    simp [F__law_cell, M__law_cell, cells, flatE, Vx.flatB, outP, len_scr, hi, e1, hx, sum_ints]
theorem pow1 : powD (.int 10) (.int 18) = .ok (.int (10 ^ 18)) := by kernel_rfl
theorem pow2 : powD (.int 10) (.int 60) = .ok (.int (10 ^ 60)) := by kernel_rfl
theorem pow3 : powD (.int (10 ^ 60)) (.int 10) = .ok (.int ((10 ^ 60) ^ 10)) := by kernel_rfl
theorem pow_pos : (0 : Int) < (10 ^ 60) ^ 10 := by decide +kernel
theorem max2 (i j : Int) : maxD [.int i, .int j] = .ok (.int (if j > i then j else i)) := id rfl
theorem generator_ok (ns : List Int) {i : Int} (h : 0 ≤ i ∧ i < 1000) : ∃ a s c, F__law_generator [.scr ns, .int i] = .ok (gen a s c) ∧ GenOk s c 1000000 := by
  obtain ⟨x, hx⟩ := cell_ok ns h.1
  have b := emod_bnd x (m := 2147483647) (by decide)
  have e1 : mulD (.int 1000) (.int i) = .ok (.int (1000 * i)) := mul_ok (by decide) (by omega)
  refine ⟨(if 0 > x - 10 ^ 18 then 0 else x - 10 ^ 18) % (10 ^ 60) ^ 10, x % 2147483647, 1000 * i, ?_, ⟨by omega, by omega, by omega, by omega⟩⟩
  simp [F__law_generator, M__law_generator, cells, flatE, frzE, frz, setC_eq, outP, hx, pow1, pow2, pow3, pow_pos, max2, e1]
  rfl
end Ma
end
section
set_option maxRecDepth 100000
set_option maxHeartbeats 1000000
set_option exponentiation.threshold 1000
namespace Ma
open PySem PySem.Spec L2 Vx Dv Ev
open Out (guard)
theorem pys_ints : ∀ ns : List Int, pys (ns.map .int) = ns.map PyData.int
  | [] => rfl
  | n :: ns => by rw [List.map_cons, List.map_cons, ← pys_ints ns]; rfl
theorem sh_int (i : Int) : SeqAt.shaped (py (.int i)) = true := by
  show SeqAt.shaped (.int i) = true
  simp [SeqAt.shaped, PyData.canLay0, PyData.depth]
theorem sh_bl (i : Bool) : SeqAt.shaped (py (.bl i)) = true := by
  show SeqAt.shaped (.bool i) = true
  simp [SeqAt.shaped, PyData.canLay0, PyData.depth]
theorem sh_non : SeqAt.shaped (py .non) = true := by
  show SeqAt.shaped .none = true
  simp [SeqAt.shaped, PyData.canLay0, PyData.depth]
theorem eq_int (i j : Int) : eqD (.int i) (.int j) = .ok (.bl (decide (i = j))) := by
  unfold eqD
  rw [Out.guard_of (by rw [sh_int, sh_int]; rfl)]
  show Out.ok (D.bl (PyData.eqv (.int i) (.int j))) = _
  congr 2
theorem ne_int (i j : Int) : neD (.int i) (.int j) = .ok (.bl (!decide (i = j))) := by
  unfold neD
  rw [Out.guard_of (by rw [sh_int, sh_int]; rfl)]
  show Out.ok (D.bl (!PyData.eqv (.int i) (.int j))) = _
  rfl
theorem eq_bl (i j : Bool) : eqD (.bl i) (.bl j) = .ok (.bl (decide (i = j))) := by
  unfold eqD
  rw [Out.guard_of (by rw [sh_bl, sh_bl]; rfl)]
  cases i <;> cases j <;> rfl
theorem ne_bl (i j : Bool) : neD (.bl i) (.bl j) = .ok (.bl (!decide (i = j))) := by
  unfold neD
  rw [Out.guard_of (by rw [sh_bl, sh_bl]; rfl)]
  cases i <;> cases j <;> rfl
theorem any_ints (n : Int) : ∀ ns : List Int, ((ns.map PyData.int).any fun z => PyData.eqv z (.int n)) = decide (n ∈ ns)
  | [] => by simp
  | m :: ns => by
    rw [List.map_cons, List.any_cons, any_ints n ns]
    have : PyData.eqv (.int m) (.int n) = decide (n = m) := by
      show (m == n) = _
      by_cases h : m = n
      · subst h; simp
      · simp [h, Ne.symm h]
    rw [this]
    by_cases h : n = m <;> simp [h]
theorem in_ints (n : Int) (ns : List Int) : inD (.int n) (.lst (ns.map .int)) = .ok (.bl (decide (n ∈ ns))) := by
  show guard (SeqAt.shaped (py (.int n)) && SeqAt.shaped (.list (pys (ns.map .int)))) (Out.ok (D.bl ((pys (ns.map .int)).any fun z => PyData.eqv z (py (.int n))))) = _
  rw [pys_ints, Out.guard_of (by rw [sh_int, PySem.W.shaped_ints]; rfl)]
  show Out.ok (D.bl ((ns.map PyData.int).any fun z => PyData.eqv z (.int n))) = _
  rw [any_ints]
def optD : Option Int → D
  | none => .non
  | some i => .int i
def told (ns : List Int) (st : Option Int) : D := .tup [.lst (ns.map .int), optD st]
/-- n stands in the set that is told -/
def inn (ns : List Int) (st : Option Int) (n : Int) : Bool := decide (n ∈ ns) || (match st with | none => false | some s => decide (s ≤ n))
theorem isNon_opt (st : Option Int) : Vx.isNon (optD st) = st.isNone := by cases st <;> rfl
theorem law_in_ok (ns : List Int) (st : Option Int) (n : Int) : F__law_in [told ns st, .int n] = .ok (.bl (inn ns st n)) := by
  cases st with
  | none =>
    by_cases h : n ∈ ns <;> simp [F__law_in, M__law_in, cells, told, optD, flatE, frzE, frz, setC_eq, outP, in_ints, inn, h, Vx.isNon]
  | some s =>
    by_cases h : n ∈ ns <;> simp [F__law_in, M__law_in, cells, told, optD, flatE, frzE, frz, setC_eq, outP, in_ints, inn, h, Vx.isNon]
end Ma
end
section
set_option maxRecDepth 100000
set_option maxHeartbeats 1000000
set_option exponentiation.threshold 1000
namespace Ma
open PySem PySem.Spec L2 Vx Dv Ev
open Out (guard)
/-- from i to j, j left out -/
def rng (i j : Int) : List Int := (List.range (j - i).toNat).map fun k : Nat => i + (k : Int)
theorem mem_rng {i j n : Int} : n ∈ rng i j ↔ i ≤ n ∧ n < j := by
  unfold rng
  rw [List.mem_map]
  constructor
  · rintro ⟨k, hk, rfl⟩
    have := List.mem_range.mp hk
    omega
  · intro h
    exact ⟨(n - i).toNat, List.mem_range.mpr (by omega), by omega⟩
theorem len_rng (i j : Int) : (rng i j).length = (j - i).toNat := by unfold rng; rw [List.length_map, List.length_range]
theorem rng_sorted (i j : Int) : (rng i j).Pairwise (· < ·) := by
  unfold rng
  rw [List.pairwise_map]
  exact (List.pairwise_lt_range).imp fun h => by omega
theorem rng_ok {i j : Int} (h : -(2 ^ 62) ≤ i ∧ i < 2 ^ 62 ∧ -(2 ^ 62) ≤ j ∧ j < 2 ^ 62) : rng2 [.int i, .int j] = .ok ((rng i j).map .int) := rng_ints h
theorem szl : (1000000 : Nat) ≤ sizeLine := by rw [sizeLine_eq]; decide
/-- a draw from the generator in slot 0 -/
theorem call_rand {a s c b : Int} {n : Nat} {r : Vx.Env} (g : GenOk s c (n + 1)) (hb : 0 < b ∧ b < 2 ^ 29) : ∃ x a' c', callM 2 0 F__law_random [.int b] (.io (gen a s c) :: r) = .ok (.int x) (.io (gen a' s c') :: r) ∧ 0 ≤ x ∧ x < b ∧ GenOk s c' n := by
  obtain ⟨x, a', c', h, h1, h2, h3⟩ := rand_ok (a := a) g hb
  refine ⟨x, a', c', ?_, h1, h2, h3⟩
  unfold callM
  rw [getO_io]
  simp only [List.length_cons, List.length_nil, h, if_true]
  rfl
theorem GenOk.less {s c : Int} {n m : Nat} (g : GenOk s c n) (h : m ≤ n) : GenOk s c m := ⟨g.s0, g.s1, g.c0, by have := g.c1; omega⟩
inductive Sub : List Int → List (Option D) → List Int → Prop
theorem all2_sub {ns : List Int} {os : List (Option D)} (h : All2 (fun d o => o = none ∨ o = some d) (ns.map D.int) os) : ∃ ms : List Int, os.filterMap id = ms.map .int ∧ ms.Sublist ns := by
  generalize hd : ns.map D.int = ds at h
  induction h generalizing ns with
  | nil =>
    cases ns with
    | nil => exact ⟨[], rfl, .slnil⟩
    | cons _ _ => cases hd
  | @cons d o ds os h1 _ ih =>
    cases ns with
    | nil => cases hd
    | cons n ns =>
      cases hd
      obtain ⟨ms, e, sl⟩ := ih rfl
      rcases h1 with rfl | rfl
      · exact ⟨ms, by rw [List.filterMap_cons]; exact e, sl.cons n⟩
      · exact ⟨n :: ms, by rw [List.filterMap_cons]; show D.int n :: os.filterMap id = _; rw [e]; rfl, sl.cons₂ n⟩
theorem law_set_list {a s c : Int} {most : Int} {n : Nat} (hm : 0 ≤ most ∧ most < 1000) (g : GenOk s c (n + 1000)) :
    ∃ (ns : List Int) (a' c' : Int), le1__law_set [.io (gen a s c), .sh (.int most), .no, .no] = .ok (.lst (ns.map .int)) [.io (gen a' s c'), .sh (.int most), .no, .no] ∧ GenOk s c' n ∧ ns.Sublist (rng 1 (most + 1)) := by
  have er : rng2 [.int 1, .int (most + 1)] = .ok ((rng 1 (most + 1)).map .int) := rng_ok (by omega)
  have hlen : ((rng 1 (most + 1)).map D.int).length ≤ 1000 := by rw [List.length_map, len_rng]; omega
  obtain ⟨os, ρ', h1, ⟨a1, c1, rfl, g1⟩, h3⟩ := lcE_inv (I := fun k ρ => ∃ a' c', ρ = [.io (gen a' s c'), .sh (.int most), .no, .no] ∧ GenOk s c' (n + k)) (n := 0) (Good := fun d o => o = none ∨ o = some d)
    (mi := fun ρ => flatI (fun ρ => ((Out.ok (D.int 1)).bind fun d => (((getV ρ 1).bind fun d => (Out.ok (D.int 1)).bind fun e => addD d e).bind fun d => (Out.ok []).bind fun ds => .ok (d :: ds)).bind fun ds => .ok (d :: ds)).bind rng2) ρ)
    (f := fun d ρ => setC ρ 3 (.sh d)) (mt := fun ρ => ((if (getO ρ 0).isSome = true then ((flatE (fun ρ => Out.ok (D.int 3)) ρ).bind fun d ρ => (Res.ok [] ρ).bind fun ds ρ => .ok (d :: ds) ρ).bind fun ds ρ => callM 2 0 F__law_random ds ρ else .stuck).bind fun d ρ => (flatE (fun ρ => Out.ok (D.int 0)) ρ).bind fun e ρ => liftO (eqD d e) ρ).bind toBE) (me := fun ρ => flatE (fun ρ => getV ρ 3) ρ) (vs := [3])
    (ρ := [.io (gen a s c), .sh (.int most), .no, .no]) (ds := (rng 1 (most + 1)).map D.int) (ρ1 := [.io (gen a s c), .sh (.int most), .no, .no]) (ρ2 := [.io (gen a s c), .sh (.int most), .no, .no]) (by simp [flatI, er]) rfl (Nat.le_trans hlen (Nat.le_trans (by decide) szl)) ⟨a, c, rfl, g.less (by omega)⟩ (fun d hd k ρ hI => by
      obtain ⟨a1, c1, rfl, g1⟩ := hI
      obtain ⟨m, _, rfl⟩ := List.mem_map.mp hd
      obtain ⟨x, a2, c2, h, h1, h2, g2⟩ := call_rand (a := a1) (b := 3) (r := [.sh (.int most), .no, .sh (.int m)]) g1 (by decide)
      by_cases hx : x = 0
      · refine ⟨some (.int m), [.io (gen a2 s c2), .sh (.int most), .no, .no], ?_, ⟨a2, c2, rfl, g2⟩, .inr rfl⟩
        simp [turn, setC_eq, flatE, h, liftO, eq_int, hx, toBE, wipeO, wipe1]
      · refine ⟨none, [.io (gen a2 s c2), .sh (.int most), .no, .no], ?_, ⟨a2, c2, rfl, g2⟩, .inl rfl⟩
        simp [turn, setC_eq, flatE, h, liftO, eq_int, hx, toBE, wipeO, wipe1])
  obtain ⟨ns, e, sl⟩ := all2_sub h3
  rw [e] at h1
  exact ⟨ns, a1, c1, h1, g1, sl⟩
theorem law_set_ok {a s c : Int} {most : Int} {n : Nat} (hm : 0 ≤ most ∧ most < 1000) (g : GenOk s c (n + 1002)) :
    ∃ ns st a' c', F__law_set (gen a s c) [.int most] = .ok (told ns st, gen a' s c') ∧ GenOk s c' n ∧ ns.Sublist (rng 1 (most + 1)) ∧ (∀ x, st = some x → 1 ≤ x ∧ x ≤ most + 2) := by
  obtain ⟨ns, a1, c1, h1, g1, sl⟩ := law_set_list (a := a) hm (n := n + 2) (g.less (by omega))
  obtain ⟨x, a2, c2, hx, x0, x1, g2⟩ := call_rand (a := a1) (b := 3) (r := [.sh (.int most), .sh (.lst (ns.map .int)), .no]) (n := n + 1) g1 (by decide)
  obtain ⟨y, a3, c3, hy, y0, y1, g3⟩ := call_rand (a := a2) (b := most + 2) (r := [.sh (.int most), .sh (.lst (ns.map .int)), .no]) (n := n) g2 (by omega)
  have sz2 : (2 : Nat) ≤ sizeLine := Nat.le_trans (by decide) szl
  by_cases hp : 0 < x
  · refine ⟨ns, none, a2, c2, ?_, g2.less (by omega), sl, fun x h => by cases h⟩
    simp [F__law_set, M__law_set, cellsM, h1, setC_eq, flatE, liftO, toBE, frzE, frz, frz1, outM, told, optD, hp, hx, sz2]
  · refine ⟨ns, some (1 + y), a3, c3, ?_, g3, sl, fun x h => by cases h; omega⟩
    simp [F__law_set, M__law_set, cellsM, h1, setC_eq, flatE, liftO, toBE, frzE, frz, frz1, outM, told, optD, hp, hx, hy, sz2]
end Ma
end
section
set_option maxRecDepth 100000
set_option maxHeartbeats 1000000
set_option exponentiation.threshold 1000
namespace Ma
open PySem PySem.Spec L2 Vx Dv Ev
open Out (guard)
def pairD (p : Int × Int) : D := .tup [.int p.1, .int p.2]
def optP : Option (Int × Int) → D
  | none => .non
  | some p => pairD p
/-- the members from 1 to most -/
def inside (ns : List Int) (st : Option Int) (most : Int) : List Int := (rng 1 (most + 1)).filter (inn ns st)
/-- low and total - low part the set at total -/
def parts (ns : List Int) (st : Option Int) (total low : Int) : Bool := decide (low ≤ total - low) && (inn ns st (total - low) && (inn ns st total != inn ns st (total + 1)))
def faultT (ns : List Int) (st : Option Int) (most : Int) : Option (Int × Int) :=
  (rng 2 (most + 1)).findSome? fun total => (inside ns st most).findSome? fun low => if parts ns st total low = true then some (low, total - low) else none
theorem lc_inside (ns : List Int) (st : Option Int) {most : Int} (hm : 0 ≤ most ∧ most < 100000) : lc1__law_fault [some (told ns st), some (.int most), none, none, none, none] = .ok (.lst ((inside ns st most).map .int)) := by
  have er : rng2 [.int 1, .int (most + 1)] = .ok ((rng 1 (most + 1)).map .int) := rng_ok (by omega)
  refine lcP_filter (ns := rng 1 (most + 1)) (p := inn ns st) (by simp [er]) (Nat.le_trans (by rw [len_rng]; omega) szl) fun n hn => ⟨[some (told ns st), some (.int most), none, none, none, some (.int n)], rfl, ?_, fun _ => rfl⟩
  simp [law_in_ok]
theorem findSome_map {α : Type} {p : D → Option α} {q : Int → Option α} (h : ∀ n, p (.int n) = q n) : ∀ ns : List Int, (ns.map D.int).findSome? p = ns.findSome? q
  | [] => rfl
  | n :: ns => by
    rw [List.map_cons, List.findSome?_cons, List.findSome?_cons, h n, findSome_map h ns]
/-- what stands in a slot: nothing that may not be overwritten -/
abbrev loose (c : Cell) : Prop := isIo (some c) = false
theorem fault_body (ns : List Int) (st : Option Int) (most total low : Int) (L : Cell) : ∃ ρ2, fb2__law_fault [.sh (told ns st), .sh (.int most), L, .sh (.int total), .sh (.int low), .no] = (match (if parts ns st total low = true then some (pairD (low, total - low)) else none) with | some r => .rt r [.sh (told ns st), .sh (.int most), L, .sh (.int total), .sh (.int low), .no] | none => .nx [.sh (told ns st), .sh (.int most), L, .sh (.int total), .sh (.int low), .no]) ∧ ρ2 = L := by
  refine ⟨L, ?_, rfl⟩
  have sz2 : (2 : Nat) ≤ sizeLine := Nat.le_trans (by decide) szl
  by_cases h1 : low ≤ total - low <;> by_cases h2 : inn ns st (total - low) = true <;> by_cases h3 : inn ns st total = inn ns st (total + 1) <;>
    simp [fb2__law_fault, Vx.flatB, frzE, frz, law_in_ok, ne_bl, parts, h1, h2, h3, pairD, sz2]
/-- the cells of the search -/
def fcells (ns : List Int) (st : Option Int) (most : Int) (L c3 c4 : Cell) : Vx.Env := [.sh (told ns st), .sh (.int most), L, c3, c4, .no]
theorem fault_inner (ns : List Int) (st : Option Int) (most total : Int) (L c4 : Cell) (h4 : loose c4) (ms : List Int) : ∃ c, loose c ∧ forL (fun d ρ => setC ρ 4 (.sh d)) fb2__law_fault (ms.map .int) (fcells ns st most L (.sh (.int total)) c4) =
    (match ms.findSome? (fun low => if parts ns st total low = true then some (low, total - low) else none) with | some r => .rt (pairD r) (fcells ns st most L (.sh (.int total)) c) | none => .nx (fcells ns st most L (.sh (.int total)) c)) := by
  obtain ⟨ρ', ⟨c, hc, rfl⟩, h2⟩ := forL_find (f := fun d ρ => setC ρ 4 (.sh d)) (body := fb2__law_fault) (I := fun ρ => ∃ c, loose c ∧ ρ = fcells ns st most L (.sh (.int total)) c) (p := fun d => match d with | .int low => (if parts ns st total low = true then some (pairD (low, total - low)) else none) | _ => none)
    (ds := ms.map .int) (ρ := fcells ns st most L (.sh (.int total)) c4) ⟨c4, h4, rfl⟩ (fun d hd ρ hI => by
      obtain ⟨c, hc, rfl⟩ := hI
      obtain ⟨low, _, rfl⟩ := List.mem_map.mp hd
      obtain ⟨_, h, _⟩ := fault_body ns st most total low L
      exact ⟨_, fcells ns st most L (.sh (.int total)) (.sh (.int low)), setC_eq (by exact hc), ⟨.sh (.int low), rfl, rfl⟩, h⟩)
  refine ⟨c, hc, ?_⟩
  rw [h2, findSome_map (q := fun low => if parts ns st total low = true then some (pairD (low, total - low)) else none) (fun n => rfl)]
  have : ms.findSome? (fun low => if parts ns st total low = true then some (pairD (low, total - low)) else none) = (ms.findSome? fun low => if parts ns st total low = true then some (low, total - low) else none).map pairD := by
    clear h2
    induction ms with
    | nil => rfl
    | cons m ms ih =>
      rw [List.findSome?_cons, List.findSome?_cons]
      by_cases q : parts ns st total m = true
      · simp [q]
      · simp only [q, if_false, Bool.false_eq_true]; exact ih
  rw [this]
  cases ms.findSome? (fun low => if parts ns st total low = true then some (low, total - low) else none) <;> rfl
theorem fault_turn (ns : List Int) (st : Option Int) (most total : Int) (ms : List Int) (b : Bool) (c4 : Cell) (h4 : loose c4) : ∃ c, loose c ∧ fb3__law_fault (fcells ns st most (if b = true then .ow (.lst (ms.map .int)) else .sh (.lst (ms.map .int))) (.sh (.int total)) c4) =
    (match ms.findSome? (fun low => if parts ns st total low = true then some (low, total - low) else none) with | some r => .rt (pairD r) (fcells ns st most (.sh (.lst (ms.map .int))) (.sh (.int total)) c) | none => .nx (fcells ns st most (.sh (.lst (ms.map .int))) (.sh (.int total)) c)) := by
  obtain ⟨c, hc, h⟩ := fault_inner ns st most total (.sh (.lst (ms.map .int))) c4 h4 ms
  refine ⟨c, hc, ?_⟩
  rw [← h]
  unfold fb3__law_fault
  have e : frzI [2] (fun ρ => (getV ρ 2).bind fun d => (itemsL d).bind .ok) (fcells ns st most (if b = true then .ow (.lst (ms.map .int)) else .sh (.lst (ms.map .int))) (.sh (.int total)) c4) = .ok (ms.map .int) (fcells ns st most (.sh (.lst (ms.map .int))) (.sh (.int total)) c4) := by
    cases b <;> rfl
  rw [e, Res.fin_ok]
theorem law_fault_ok (ns : List Int) (st : Option Int) {most : Int} (hm : 0 ≤ most ∧ most < 100000) : F__law_fault [told ns st, .int most] = .ok (optP (faultT ns st most)) := by
  have e0 := lc_inside ns st hm
  have er : rng2 [.int 2, .int (most + 1)] = .ok ((rng 2 (most + 1)).map .int) := rng_ok (by omega)
  obtain ⟨ρ', _, h2⟩ := forL_find (f := fun d ρ => setC ρ 3 (.sh d)) (body := fb3__law_fault) (I := fun ρ => ∃ (b : Bool) (c3 c4 : Cell), loose c3 ∧ loose c4 ∧ ρ = fcells ns st most (if b = true then .ow (.lst ((inside ns st most).map .int)) else .sh (.lst ((inside ns st most).map .int))) c3 c4)
    (p := fun d => match d with | .int total => ((inside ns st most).findSome? fun low => if parts ns st total low = true then some (low, total - low) else none).map pairD | _ => none)
    (ds := (rng 2 (most + 1)).map .int) (ρ := fcells ns st most (.ow (.lst ((inside ns st most).map .int))) .no .no) ⟨true, .no, .no, rfl, rfl, rfl⟩ (fun d hd ρ hI => by
      obtain ⟨b, c3, c4, h3, h4, rfl⟩ := hI
      obtain ⟨total, _, rfl⟩ := List.mem_map.mp hd
      obtain ⟨c, hc, h⟩ := fault_turn ns st most total (inside ns st most) b c4 h4
      refine ⟨_, fcells ns st most (.sh (.lst ((inside ns st most).map .int))) (.sh (.int total)) c, setC_eq (by exact h3), ⟨false, .sh (.int total), c, rfl, hc, rfl⟩, ?_⟩
      refine Eq.trans h ?_
      show _ = (match ((inside ns st most).findSome? fun low => if parts ns st total low = true then some (low, total - low) else none).map pairD with | some r => SRes.rt r _ | none => .nx _)
      cases (inside ns st most).findSome? (fun low => if parts ns st total low = true then some (low, total - low) else none) <;> rfl)
  have e2 : ((rng 2 (most + 1)).map D.int).findSome? (fun d => match d with | .int total => ((inside ns st most).findSome? fun low => if parts ns st total low = true then some (low, total - low) else none).map pairD | _ => none) = (faultT ns st most).map pairD := by
    rw [findSome_map (q := fun total => ((inside ns st most).findSome? fun low => if parts ns st total low = true then some (low, total - low) else none).map pairD) (fun n => rfl)]
    unfold faultT
    induction rng 2 (most + 1) with
    | nil => rfl
    | cons m ms ih =>
      rw [List.findSome?_cons, List.findSome?_cons]
      cases (inside ns st most).findSome? (fun low => if parts ns st m low = true then some (low, m - low) else none) with
      | some r => rfl
      | none => exact ih
  rw [e2] at h2
  have e3 : M__law_fault (cells [told ns st, .int most] 6) = (forL (fun d ρ => setC ρ 3 (.sh d)) fb3__law_fault ((rng 2 (most + 1)).map .int) (fcells ns st most (.ow (.lst ((inside ns st most).map .int))) .no .no)).then fun ρ => (flatE (fun ρ => Out.ok D.non) ρ).fin fun d ρ => .rt d ρ := by
    unfold M__law_fault
    have e4 : frzE [] (fun ρ => lc1__law_fault ρ) (cells [told ns st, .int most] 6) = .ok (.lst ((inside ns st most).map .int)) (cells [told ns st, .int most] 6) := by
      unfold frzE
      rw [show viewS (frz [] (cells [told ns st, .int most] 6)) = [some (told ns st), some (.int most), none, none, none, none] from rfl]
      simp only [e0]
      rfl
    have e5 : flatI (fun ρ => ((Out.ok (D.int 2)).bind fun d => (((getV ρ 1).bind fun d => (Out.ok (D.int 1)).bind fun e => addD d e).bind fun d => (Out.ok []).bind fun ds => .ok (d :: ds)).bind fun ds => .ok (d :: ds)).bind rng2) (fcells ns st most (.ow (.lst ((inside ns st most).map .int))) .no .no) = .ok ((rng 2 (most + 1)).map .int) (fcells ns st most (.ow (.lst ((inside ns st most).map .int))) .no .no) := by
      simp [flatI, fcells, er]
    rw [e4, Res.fin_ok, setC_eq (by rfl), orStuck_some, SRes.then_nx]
    rw [show ((cells [told ns st, .int most] 6).set 2 (.ow (.lst ((inside ns st most).map .int)))) = fcells ns st most (.ow (.lst ((inside ns st most).map .int))) .no .no from rfl, e5, Res.fin_ok]
  unfold F__law_fault
  rw [e3, h2]
  cases faultT ns st most with
  | none => simp [flatE, outP, optP]
  | some r => simp [outP, optP]
end Ma
end
section
set_option maxRecDepth 100000
set_option maxHeartbeats 1000000
set_option exponentiation.threshold 1000
namespace Ma
open PySem PySem.Spec L2 Vx Dv Ev
open Out (guard)
theorem isi_int (n : Int) : isiD "int" (.int n) = .ok (.bl true) := by
  show Out.ok (D.bl (isiB "int" "int")) = _
  rw [show isiB "int" "int" = true from by decide +kernel]
theorem isi_int_bool (n : Int) : isiD "bool" (.int n) = .ok (.bl false) := by
  show Out.ok (D.bl (isiB "int" "bool")) = _
  rw [show isiB "int" "bool" = false from by decide +kernel]
theorem isi_list (ds : List D) : isiD "list" (.lst ds) = .ok (.bl true) := by
  show Out.ok (D.bl (isiB "list" "list")) = _
  rw [show isiB "list" "list" = true from by decide +kernel]
theorem is_whole_int (n : Int) : F_is_whole [.int n] = .ok (.bl true) := by
  simp [F_is_whole, M_is_whole, cells, flatE, outP, isi_int, isi_int_bool]
theorem is_between_int (n lo hi : Int) : F_is_between [.int n, .int lo, .int hi] = .ok (.bl (decide (lo ≤ n) && decide (n ≤ hi))) := by
  by_cases h : lo ≤ n <;> simp [F_is_between, M_is_between, cells, flatE, Vx.flatB, outP, is_whole_int, Vx.isNon, h]
/-! keys that are whole numbers, each with True -/
def kd (ks : List Int) : List (Key × D) := ks.map fun k => (Sum.inl k, D.bl true)
theorem kd_has (ks : List Int) (n : Int) : (valD (kd ks) (Sum.inl n)).isSome = decide (n ∈ ks) := by
  induction ks with
  | nil => rfl
  | cons k ks ih =>
    unfold valD at ih ⊢
    show (((Sum.inl k, D.bl true) :: kd ks).find? _ |>.map (·.2)).isSome = _
    by_cases h : k = n
    · subst h; rw [List.find?_cons_of_pos (by simp)]; simp
    · rw [List.find?_cons_of_neg (by simp [h]), ih]
      simp [Ne.symm h]
theorem kd_drop (ks : List Int) (n : Int) : dropD (kd ks) (Sum.inl n) = kd (ks.filter fun k => decide (k ≠ n)) := by
  unfold dropD kd
  induction ks with
  | nil => rfl
  | cons k ks ih =>
    rw [List.map_cons, List.filter_cons, List.filter_cons]
    by_cases h : k = n
    · simp only [h]; simpa using ih
    · simp only [h, ne_eq, Sum.inl.injEq, not_false_eq_true, decide_true, if_true, List.map_cons]; rw [← ih]
def addK (ks : List Int) (n : Int) : List Int := if n ∈ ks then ks else ks ++ [n]
theorem kd_put (ks : List Int) (n : Int) : putD (kd ks) (Sum.inl n) (.bl true) = kd (addK ks n) := by
  have e : ((kd ks).any fun kv => decide (kv.1 = Sum.inl n)) = decide (n ∈ ks) := by
    unfold kd
    induction ks with
    | nil => rfl
    | cons k ks ih =>
      rw [List.map_cons, List.any_cons, ih]
      by_cases h : k = n
      · simp [h]
      · simp [h, Ne.symm h]
  unfold putD addK
  rw [e]
  by_cases h : n ∈ ks
  · rw [if_pos (by simpa using h), if_pos h]
    unfold kd
    rw [List.map_map]
    refine List.map_congr_left fun k _ => ?_
    by_cases q : k = n <;> simp [q]
  · rw [if_neg (by simpa using h), if_neg h]
    unfold kd
    rw [List.map_append]; rfl
theorem mem_addK {ks : List Int} {n m : Int} : m ∈ addK ks n ↔ m ∈ ks ∨ m = n := by
  unfold addK
  split
  · rename_i h
    exact ⟨.inl, fun z => z.elim id fun z => z ▸ h⟩
  · rw [List.mem_append, List.mem_singleton]
/-- n is kept as a key -/
def below : Option Int → Int → Bool
  | none, _ => true
  | some s, n => decide (n < s)
/-- the keys of the numbers that are kept -/
def keysOf (st : Option Int) (ns : List Int) : List Int := (ns.filter (below st)).foldl addK []
/-- start lowered, the keys it reaches dropped -/
def lower : Nat → List Int → Int → List Int × Int
  | 0, ks, s => (ks, s)
  | f + 1, ks, s => if s - 1 ∈ ks then lower f (ks.filter fun k => decide (k ≠ s - 1)) (s - 1) else (ks, s)
theorem key_int (n : Int) : keyD (.int n) = some (Sum.inl n) := id rfl
theorem ind_kd (n : Int) (ks : List Int) : indD (.int n) (.dK (kd ks)) = .ok (.bl (decide (n ∈ ks))) := by
  show Out.ok (D.bl (valD (kd ks) (Sum.inl n)).isSome) = _
  rw [kd_has]
def selfD (fs : List (Str × D)) : D := .ins 0 fs
/-- an object of the class, as it is once made -/
def letsD (ks : List Int) (st : Option Int) : D := .ins 0 [("_held", .dK (kd ks)), ("_start", optD st)]
theorem dcGo_keys {F : D → Out (Option (Key × D))} {p : Int → Bool} : ∀ {ns ks : List Int}, (∀ n ∈ ns, F (.int n) = .ok (if p n = true then some (Sum.inl n, .bl true) else none)) → dcGo F (ns.map .int) (kd ks) = .ok (kd ((ns.filter p).foldl addK ks))
  | [], ks, _ => rfl
  | n :: ns, ks, h => by
    have h1 := h n List.mem_cons_self
    have ih := fun ks => dcGo_keys (ns := ns) (ks := ks) fun m hm => h m (List.mem_cons_of_mem _ hm)
    show (match F (.int n) with | .ok (some (k, v)) => dcGo F (ns.map .int) (putD (kd ks) k v) | .ok none => dcGo F (ns.map .int) (kd ks) | _ => .stuck) = _
    rw [h1, List.filter_cons]
    by_cases q : p n = true
    · simp only [q, if_true, kd_put, ih]; rfl
    · simp only [q, if_false, Bool.false_eq_true, ih]
theorem held_ok (self : Option D) (ns : List Int) (st : Option Int) (hz : ns.length ≤ 1000) (x : Option D) : dc1_Lets_fill [self, some (.lst (ns.map .int)), some (optD st), none, x] = .ok (.dK (kd (keysOf st ns))) := by
  unfold dc1_Lets_fill dcP
  have e : (getV [self, some (.lst (ns.map .int)), some (optD st), none, x] 1).bind (fun d => (itemsL d).bind .ok) = .ok (ns.map .int) := rfl
  simp only [e, Out.bind_ok]
  rw [Out.guard_of (by rw [decide_eq_true_eq, List.length_map]; exact Nat.le_trans hz (Nat.le_trans (by decide) szl))]
  have k := dcGo_keys (ks := []) (ns := ns) (p := below st) (F := dcF (fun (d : D) (ρ : PEnv) => Out.ok (ρ.set 4 (some d))) (fun ρ => ((getV ρ 2).bind fun d => .ok (Vx.isNon d)).bind fun c => if c = true then .ok true else (((getV ρ 4).bind fun d => (getV ρ 2).bind fun e => ltD d e).bind toB)) (fun ρ => getV ρ 4) (fun ρ => Out.ok (D.bl true)) (wipeV [self, some (.lst (ns.map .int)), some (optD st), none, x] [4]))
    (fun n _ => by
      cases st with
      | none => simp [dcF, wipeV, optD, Vx.isNon, key_int, Out.ofOpt, below]
      | some s =>
        by_cases q : n < s <;> simp [dcF, wipeV, optD, Vx.isNon, key_int, Out.ofOpt, below, q])
  rw [show (kd [] : List (Key × D)) = [] from rfl] at k
  rw [k]
  rfl
end Ma
end
section
set_option maxRecDepth 100000
set_option maxHeartbeats 1000000
set_option exponentiation.threshold 1000
namespace Ma
open PySem PySem.Spec L2 Vx Dv Ev
open Out (guard)
/-- the cells of _fill -/
def gcells (a b : Cell) (st : Option Int) (ks : List Int) : Vx.Env := [a, b, .sh (optD st), .ow (.dK (kd ks)), .no]
theorem wc_none (a b : Cell) (ks : List Int) : wc2_Lets_fill (gcells a b none ks) = .ok false (gcells a b none ks) := by
  simp [wc2_Lets_fill, gcells, Vx.flatB, optD, Vx.isNon]
theorem wc_some (a b : Cell) (s : Int) (ks : List Int) : wc2_Lets_fill (gcells a b (some s) ks) = .ok (decide (s - 1 ∈ ks)) (gcells a b (some s) ks) := by
  simp [wc2_Lets_fill, gcells, Vx.flatB, optD, Vx.isNon, ind_kd]
theorem wb_some (a b : Cell) (s : Int) (ks : List Int) (h : s - 1 ∈ ks) : wb3_Lets_fill (gcells a b (some s) ks) = .nx (gcells a b (some (s - 1)) (ks.filter fun k => decide (k ≠ s - 1))) := by
  have e1 : flatE (fun ρ => (getV ρ 2).bind fun d => (Out.ok (D.int 1)).bind fun e => subD d e) (gcells a b (some s) ks) = .ok (.int (s - 1)) (gcells a b (some s) ks) := by
    simp [flatE, gcells, optD]
  have e2 : (gcells a b (some s) ks).set 2 (.sh (.int (s - 1))) = gcells a b (some (s - 1)) ks := rfl
  have e3 : flatE (fun ρ => getV ρ 2) (gcells a b (some (s - 1)) ks) = .ok (.int (s - 1)) (gcells a b (some (s - 1)) ks) := by
    simp [flatE, gcells, optD]
  have e4 : delM 3 (.int (s - 1)) (gcells a b (some (s - 1)) ks) = .nx (gcells a b (some (s - 1)) (ks.filter fun k => decide (k ≠ s - 1))) := by
    show (if (valD (kd ks) (Sum.inl (s - 1))).isSome = true then SRes.nx (gcells a b (some (s - 1)) ks |>.set 3 (.ow (.dK (dropD (kd ks) (Sum.inl (s - 1)))))) else .stuck) = _
    rw [if_pos (by rw [kd_has]; simpa using h), kd_drop]
    rfl
  unfold wb3_Lets_fill
  rw [e1, Res.fin_ok, setC_eq (by rfl), orStuck_some, SRes.then_nx, e2, if_pos (by rfl), e3, Res.fin_ok, e4]
theorem while_none (a b : Cell) (ks : List Int) (f : Nat) : whileL wc2_Lets_fill wb3_Lets_fill (f + 1) (gcells a b none ks) = .nx (gcells a b none ks) := by
  unfold whileL
  rw [wc_none, Res.fin_ok]
  rfl
theorem filter_less {ks : List Int} {x : Int} (h : x ∈ ks) : (ks.filter fun k => decide (k ≠ x)).length < ks.length := by
  induction ks with
  | nil => cases h
  | cons k ks ih =>
    rw [List.filter_cons]
    by_cases q : k = x
    · simp only [q, ne_eq, not_true_eq_false, decide_false, if_false, Bool.false_eq_true, List.length_cons]
      exact Nat.lt_succ_of_le (List.length_filter_le _ _)
    · have h' : x ∈ ks := (List.mem_cons.mp h).resolve_left (fun z => q z.symm)
      simp only [q, ne_eq, not_false_eq_true, decide_true, if_true, List.length_cons]
      exact Nat.succ_lt_succ (ih h')
theorem while_some (a b : Cell) : ∀ (f : Nat) (ks : List Int) (s : Int), ks.length < f → whileL wc2_Lets_fill wb3_Lets_fill f (gcells a b (some s) ks) = .nx (gcells a b (some (lower f ks s).2) (lower f ks s).1)
  | 0, ks, s, h => by omega
  | f + 1, ks, s, h => by
    unfold whileL lower
    rw [wc_some, Res.fin_ok]
    by_cases q : s - 1 ∈ ks
    · rw [if_pos (by simpa using q), wb_some a b s ks q, if_pos q]
      exact while_some a b f _ (s - 1) (by have := filter_less q; omega)
    · rw [if_neg (by simpa using q), if_neg q]
/-- what the loop leaves -/
def settle (ks : List Int) : Option Int → List Int × Option Int
  | none => (ks, none)
  | some s => ((lower (ks.length + 1) ks s).1, some (lower (ks.length + 1) ks s).2)
theorem while_ok (a b : Cell) (st : Option Int) (ks : List Int) : whileL wc2_Lets_fill wb3_Lets_fill (ks.length + 1) (gcells a b st ks) = .nx (gcells a b (settle ks st).2 (settle ks st).1) := by
  cases st with
  | none => exact while_none a b ks ks.length
  | some s => exact while_some a b _ ks s (Nat.lt_succ_self _)
theorem held_start : ¬ (Str.ofString "_held" = Str.ofString "_start") := by decide +kernel
theorem fill_ok (ns : List Int) (st : Option Int) (hz : ns.length ≤ 1000) : F_Lets_fill (.ins 0 []) [.lst (ns.map .int), optD st] = .ok (.non, letsD (settle (keysOf st ns) st).1 (settle (keysOf st ns) st).2) := by
  have sz2 : (2 : Nat) ≤ sizeLine := Nat.le_trans (by decide) szl
  have e0 : frzE [] dc1_Lets_fill (cellsM (.ins 0 []) [.lst (ns.map .int), optD st] 5) = .ok (.dK (kd (keysOf st ns))) (cellsM (.ins 0 []) [.lst (ns.map .int), optD st] 5) := by
    unfold frzE
    rw [show viewS (frz [] (cellsM (.ins 0 []) [.lst (ns.map .int), optD st] 5)) = [none, some (.lst (ns.map .int)), some (optD st), none, none] from rfl, held_ok _ ns st hz]
    rfl
  have e1 : (cellsM (.ins 0 []) [.lst (ns.map .int), optD st] 5).set 3 (.ow (.dK (kd (keysOf st ns)))) = gcells (.io (.ins 0 [])) (.sh (.lst (ns.map .int))) st (keysOf st ns) := rfl
  have e2 : (kd (keysOf st ns)).length = (keysOf st ns).length := by unfold kd; rw [List.length_map]
  unfold F_Lets_fill M_Lets_fill
  rw [e0, Res.fin_ok, setC_eq (by rfl), orStuck_some, SRes.then_nx, e1]
  have e3 : (match getO (gcells (.io (.ins 0 [])) (.sh (.lst (ns.map .int))) st (keysOf st ns)) 3 with | some (.dK ds) => ds.length + 1 | _ => 0) = (keysOf st ns).length + 1 := by
    show (kd (keysOf st ns)).length + 1 = _
    rw [e2]
  have e4 : whileL wc2_Lets_fill wb3_Lets_fill (match getO (gcells (.io (.ins 0 [])) (.sh (.lst (ns.map .int))) st (keysOf st ns)) 3 with | some (.dK ds) => ds.length + 1 | _ => 0) (gcells (.io (.ins 0 [])) (.sh (.lst (ns.map .int))) st (keysOf st ns)) = .nx (gcells (.io (.ins 0 [])) (.sh (.lst (ns.map .int))) (settle (keysOf st ns) st).2 (settle (keysOf st ns) st).1) := by
    rw [e3]; exact while_ok _ _ st _
  refine Eq.trans (congrArg (fun z : SRes => outM false (z.then _)) e4) ?_
  generalize settle (keysOf st ns) st = p
  obtain ⟨ks, so⟩ := p
  cases so <;> simp [gcells, frzE, frz, frz1, optD, sz2, Vx.setF, mutC, letsD, putFD, outM, held_start]
end Ma
end
section
set_option maxRecDepth 100000
set_option maxHeartbeats 1000000
set_option exponentiation.threshold 1000
namespace Ma
open PySem PySem.Spec L2 Vx Dv Ev
open Out (guard)
@[simp] theorem all_no : Cell.no.all = none := id rfl
@[simp] theorem shared_no : Cell.no.shared = none := id rfl
@[simp] theorem shared_ow (d : D) : (Cell.ow d).shared = none := id rfl
@[simp] theorem shared_io (d : D) : (Cell.io d).shared = none := id rfl
@[simp] theorem isNon_non : Vx.isNon .non = true := id rfl
@[simp] theorem isNon_int (i : Int) : Vx.isNon (.int i) = false := id rfl
theorem ne_nil : neD (.lst []) (.lst []) = .ok (.bl false) := by
  unfold neD
  rw [Out.guard_of (by show (SeqAt.shaped (.list []) && SeqAt.shaped (.list [])) = true; simp [SeqAt.shaped, PyData.canLay0, PyData.canLayAll0, PyData.depth, PyData.depthAll])]
  rfl
/-- numbers and a start that may be told -/
structure Told (ns : List Int) (st : Option Int) : Prop where
  len : ns.length ≤ 200
  num : ∀ n ∈ ns, 1 ≤ n ∧ n ≤ 1000
  sta : ∀ s, st = some s → 1 ≤ s ∧ s ≤ 1000
theorem init_list {ns : List Int} {st : Option Int} (h : Told ns st) (self : Option D) : lc1_Lets_init [self, some (.lst (ns.map .int)), some (optD st), none] = .ok (.lst []) := by
  have e := lcP_filter (mi := fun ρ => (getV ρ 1).bind fun d => (itemsL d).bind .ok) (fg := fun (d : D) (ρ : PEnv) => Out.ok (ρ.set 3 (some d))) (mt := fun ρ => ((((getV ρ 3).bind fun d => ((Out.ok (D.int 1)).bind fun d => ((Out.ok (D.int 1000)).bind fun d => (Out.ok []).bind fun ds => .ok (d :: ds)).bind fun ds => .ok (d :: ds)).bind fun ds => .ok (d :: ds)).bind fun ds => guard (decide (ds.length = 3)) (F_is_between ds)).bind toB).bind fun c => .ok (!c)) (me := fun ρ => getV ρ 3) (vs := [3]) (ρ := [self, some (.lst (ns.map .int)), some (optD st), none]) (ns := ns) (p := fun n => !(decide (1 ≤ n) && decide (n ≤ 1000))) rfl (Nat.le_trans h.len (Nat.le_trans (by decide) szl))
    (fun n hn => ⟨[self, some (.lst (ns.map .int)), some (optD st), some (.int n)], rfl, by simp [is_between_int], fun _ => rfl⟩)
  have f : ns.filter (fun n => !(decide (1 ≤ n) && decide (n ≤ 1000))) = [] := by
    rw [List.filter_eq_nil_iff]
    intro n hn
    have := h.num n hn
    simp [this]
  rw [f] at e
  exact e
theorem fill_name : ((([] : List (Str × D)).lookup (Str.ofString "_fill"))).isNone = true := by rfl
theorem init_ok {ns : List Int} {st : Option Int} (h : Told ns st) : F_Lets_init (.ins 0 []) [.lst (ns.map .int), optD st] = .ok (.non, letsD (settle (keysOf st ns) st).1 (settle (keysOf st ns) st).2) := by
  have e0 := init_list h (some (.ins 0 []))
  have e1 := fill_ok ns st (Nat.le_trans h.len (by decide))
  have e2 : one1 lenD [.lst (ns.map .int)] = .ok (.int ns.length) := by
    show Out.ok (D.int ((ns.map D.int).length : Nat)) = _
    rw [List.length_map]
  have e3 : ¬ ((200 : Int) < (ns.length : Int)) := by have := h.len; omega
  have sz0 : (0 : Nat) ≤ sizeLine := Nat.zero_le _
  cases st with
  | none => 
    simp only [optD] at e0 e1
    simp [F_Lets_init, M_Lets_init, cellsM, Vx.flatB, flatE, frzE, frz, optD, isi_list, e0, e1, e2, e3, ne_nil, callM, mutC, outM]
  | some s =>
    have hs := h.sta s rfl
    simp only [optD] at e0 e1
    simp [F_Lets_init, M_Lets_init, cellsM, Vx.flatB, flatE, frzE, frz, optD, isi_list, e0, e1, e2, e3, ne_nil, callM, mutC, outM, is_between_int, hs.1, hs.2]
end Ma
end
section
set_option maxRecDepth 100000
set_option maxHeartbeats 1000000
set_option exponentiation.threshold 1000
namespace Ma
open PySem PySem.Spec L2 Vx Dv Ev
open Out (guard)
theorem fld_held (ks : List Int) (st : Option Int) : fldD 0 "_held" (letsD ks st) = .ok (.dK (kd ks)) := id rfl
theorem fld_start (ks : List Int) (st : Option Int) : fldD 0 "_start" (letsD ks st) = .ok (optD st) := by
  show guard (decide (0 = 0)) (Out.ofOpt (List.lookup (Str.ofString "_start") [(Str.ofString "_held", D.dK (kd ks)), (Str.ofString "_start", optD st)])) = _
  rw [Out.guard_of (by decide), List.lookup_cons, show (Str.ofString "_start" == Str.ofString "_held") = false from by decide +kernel]
  simp only []
  rw [List.lookup_cons, show (Str.ofString "_start" == Str.ofString "_start") = true from by decide +kernel]
  rfl
theorem start_ok (ks : List Int) (st : Option Int) : F_Lets_start [letsD ks st] = .ok (optD st) := by
  simp [F_Lets_start, M_Lets_start, cells, frzE, frz, outP, fld_start]
theorem listDD_kd (ks : List Int) : one1 listDD [.dK (kd ks)] = .ok (.lst (ks.map .int)) := by
  show Out.ok (D.lst ((kd ks).map fun kv => ofKey kv.1)) = _
  congr 2
  unfold kd
  rw [List.map_map]
  rfl
theorem sorted_ints (ns : List Int) : one1 sortedD [.lst (ns.map .int)] = .ok (.lst ((isort ns).map .int)) := by
  show sortedD (.lst (ns.map .int)) = _
  unfold sortedD
  show (Out.ok (ns.map D.int)).bind _ = _
  rw [Out.bind_ok, ints?_map]
  rfl
theorem numbers_ok (ks : List Int) (st : Option Int) : F_Lets_numbers [letsD ks st] = .ok (.lst ((isort ks).map .int)) := by
  simp only [F_Lets_numbers, M_Lets_numbers, cells, List.map, List.cons_append, List.nil_append, List.length_cons, List.length_nil, frzE, frz, List.foldl, viewS_cons, shared_sh, getV_cons0, Out.bind_ok, fld_held, listDD_kd, sorted_ints]
  rfl
theorem meth_start (ks : List Int) (st : Option Int) : methD 0 "start" 1 F_Lets_start (letsD ks st) [] = .ok (optD st) := by
  show guard (decide (0 = 0 ∧ (List.lookup (Str.ofString "start") [(Str.ofString "_held", D.dK (kd ks)), (Str.ofString "_start", optD st)]).isNone = true ∧ ([] : List D).length + 1 = 1)) (F_Lets_start [letsD ks st]) = _
  rw [start_ok, Out.guard_of]
  rw [decide_eq_true_eq]
  refine ⟨rfl, ?_, rfl⟩
  rw [List.lookup_cons, show (Str.ofString "start" == Str.ofString "_held") = false from by decide +kernel]
  simp only []
  rw [List.lookup_cons, show (Str.ofString "start" == Str.ofString "_start") = false from by decide +kernel]
  rfl
theorem meth_numbers (ks : List Int) (st : Option Int) : methD 0 "numbers" 1 F_Lets_numbers (letsD ks st) [] = .ok (.lst ((isort ks).map .int)) := by
  show guard (decide (0 = 0 ∧ (List.lookup (Str.ofString "numbers") [(Str.ofString "_held", D.dK (kd ks)), (Str.ofString "_start", optD st)]).isNone = true ∧ ([] : List D).length + 1 = 1)) (F_Lets_numbers [letsD ks st]) = _
  rw [numbers_ok, Out.guard_of]
  rw [decide_eq_true_eq]
  refine ⟨rfl, ?_, rfl⟩
  rw [List.lookup_cons, show (Str.ofString "numbers" == Str.ofString "_held") = false from by decide +kernel]
  simp only []
  rw [List.lookup_cons, show (Str.ofString "numbers" == Str.ofString "_start") = false from by decide +kernel]
  rfl
theorem contains_ok (ks : List Int) (st : Option Int) (n : Int) : F_Lets_contains [letsD ks st, .int n] = .ok (.bl (inn ks st n)) := by
  cases st with
  | none => by_cases h : n ∈ ks <;> simp [F_Lets_contains, M_Lets_contains, cells, Vx.flatB, flatE, outP, is_whole_int, fld_held, fld_start, ind_kd, inn, h, optD]
  | some s => by_cases h : n ∈ ks <;> simp [F_Lets_contains, M_Lets_contains, cells, Vx.flatB, flatE, outP, is_whole_int, fld_held, fld_start, ind_kd, inn, h, optD]
theorem in_lets (ks : List Int) (st : Option Int) (n : Int) : inOD 0 F_Lets_contains (.int n) (letsD ks st) = .ok (.bl (inn ks st n)) := by
  show guard (decide (0 = 0)) (boolF (F_Lets_contains [letsD ks st, .int n])) = _
  rw [contains_ok]
  rfl
theorem make_ok {ns : List Int} {st : Option Int} (h : Told ns st) : makeD 0 F_Lets_init [] [.lst (ns.map .int), optD st] = .ok (letsD (settle (keysOf st ns) st).1 (settle (keysOf st ns) st).2) := by
  show (match F_Lets_init (.ins 0 []) [.lst (ns.map .int), optD st] with | .ok (.non, d) => Out.ok d | _ => .stuck) = _
  rw [init_ok h]
theorem make1_ok {ns : List Int} (h : Told ns none) : makeD 0 F_Lets_init [.non] [.lst (ns.map .int)] = .ok (letsD (settle (keysOf none ns) none).1 (settle (keysOf none ns) none).2) := make_ok h
end Ma
end
section
set_option maxRecDepth 100000
set_option maxHeartbeats 1000000
set_option exponentiation.threshold 1000
namespace Ma
open PySem PySem.Spec L2 Vx Dv Ev
open Out (guard)
/-! ### the set that an object stands for -/
theorem mem_foldl_addK {m : Int} : ∀ {ns ks : List Int}, m ∈ ns.foldl addK ks ↔ m ∈ ks ∨ m ∈ ns
  | [], ks => by simp
  | n :: ns, ks => by
    rw [List.foldl_cons, mem_foldl_addK, mem_addK, List.mem_cons]
    constructor
    · rintro ((h | h) | h)
      · exact .inl h
      · exact .inr (.inl h)
      · exact .inr (.inr h)
    · rintro (h | h | h)
      · exact .inl (.inl h)
      · exact .inl (.inr h)
      · exact .inr h
theorem mem_keysOf {st : Option Int} {ns : List Int} {m : Int} : m ∈ keysOf st ns ↔ m ∈ ns ∧ below st m = true := by
  unfold keysOf
  rw [mem_foldl_addK, List.mem_filter]
  simp
theorem mem_lower {m : Int} : ∀ {f : Nat} {ks : List Int} {s : Int}, (m ∈ (lower f ks s).1 ∨ (lower f ks s).2 ≤ m) ↔ (m ∈ ks ∨ s ≤ m)
  | 0, ks, s => Iff.rfl
  | f + 1, ks, s => by
    unfold lower
    by_cases h : s - 1 ∈ ks
    · rw [if_pos h, mem_lower, List.mem_filter, decide_eq_true_eq]
      constructor
      · rintro (⟨h1, _⟩ | h1)
        · exact .inl h1
        · by_cases q : s ≤ m
          · exact .inr q
          · have : m = s - 1 := by omega
            subst this; exact .inl h
      · rintro (h1 | h1)
        · by_cases q : m = s - 1
          · exact .inr (by omega)
          · exact .inl ⟨h1, q⟩
        · exact .inr (by omega)
    · rw [if_neg h]
theorem inn_iff {ns : List Int} {st : Option Int} {m : Int} : inn ns st m = true ↔ m ∈ ns ∨ ∃ s, st = some s ∧ s ≤ m := by
  unfold inn
  rw [Bool.or_eq_true, decide_eq_true_eq]
  cases st with
  | none => simp
  | some s => simp
theorem inn_settle (ns : List Int) (st : Option Int) (m : Int) : inn (settle (keysOf st ns) st).1 (settle (keysOf st ns) st).2 m = inn ns st m := by
  rw [Bool.eq_iff_iff, inn_iff, inn_iff]
  cases st with
  | none =>
    show (m ∈ keysOf none ns ∨ ∃ s, none = some s ∧ s ≤ m) ↔ _
    rw [mem_keysOf]
    simp [below]
  | some s =>
    show (m ∈ (lower _ (keysOf (some s) ns) s).1 ∨ ∃ t, some (lower _ (keysOf (some s) ns) s).2 = some t ∧ t ≤ m) ↔ _
    have e : (∃ t, some (lower ((keysOf (some s) ns).length + 1) (keysOf (some s) ns) s).2 = some t ∧ t ≤ m) ↔ (lower ((keysOf (some s) ns).length + 1) (keysOf (some s) ns) s).2 ≤ m :=
      ⟨fun ⟨t, h, h2⟩ => by cases h; exact h2, fun h => ⟨_, rfl, h⟩⟩
    rw [e, mem_lower, mem_keysOf]
    have e2 : (∃ t, some s = some t ∧ t ≤ m) ↔ s ≤ m := ⟨fun ⟨t, h, h2⟩ => by cases h; exact h2, fun h => ⟨s, rfl, h⟩⟩
    rw [e2]
    simp only [below, decide_eq_true_eq]
    constructor
    · rintro (⟨h, _⟩ | h)
      · exact .inl h
      · exact .inr h
    · rintro (h | h)
      · by_cases q : m < s
        · exact .inl ⟨h, q⟩
        · exact .inr (by omega)
      · exact .inr h
theorem settle_none {ks : List Int} {st : Option Int} : (settle ks st).2 = none ↔ st = none := by
  cases st <;> simp [settle]
end Ma
end
section
set_option maxRecDepth 100000
set_option maxHeartbeats 1000000
set_option exponentiation.threshold 1000
namespace Ma
open PySem PySem.Spec L2 Vx Dv Ev
open Out (guard)
theorem rgD_ok {a b : Int} (h : -(2 ^ 40) ≤ a ∧ a < 2 ^ 40 ∧ -(2 ^ 40) ≤ b ∧ b < 2 ^ 40) (hz : (b - a).toNat ≤ 2 ^ 24) : rgD a b = .ok (.lst ((rng a b).map .int)) := by
  unfold rgD
  rw [Out.guard_of (by rw [decide_eq_true_eq]; omega)]
  unfold rng rangeD
  rw [List.map_map]
  rfl
theorem add_lst {xs ys : List Int} (h : xs.length + ys.length ≤ sizeLine) : addD (.lst (xs.map .int)) (.lst (ys.map .int)) = .ok (.lst ((xs ++ ys).map .int)) := by
  show guard (decide ((xs.map D.int).length + (ys.map D.int).length ≤ sizeLine)) _ = _
  rw [List.length_map, List.length_map, Out.guard_of (decide_eq_true h), List.map_append]
/-- what an object gives from 1 to most -/
def numsTo (ks : List Int) (st : Option Int) (most : Int) : List Int := (isort ks).filter (fun n => decide (n ≤ most)) ++ (match st with | none => [] | some s => rng s (most + 1))
theorem isort_len (ks : List Int) : (isort ks).length = ks.length := (isort_perm ks).length_eq
theorem lc1_ok (ks : List Int) (st : Option Int) (most : Int) (hz : ks.length ≤ 1000) : lc1_numbers_to [some (letsD ks st), some (.int most), none] = .ok (.lst (((isort ks).filter fun n => decide (n ≤ most)).map .int)) := by
  refine lcP_filter (ns := isort ks) (p := fun n => decide (n ≤ most)) ?_ (by rw [isort_len]; exact Nat.le_trans hz (Nat.le_trans (by decide) szl)) fun n hn => ⟨[some (letsD ks st), some (.int most), some (.int n)], rfl, by simp, fun _ => rfl⟩
  simp [meth_numbers]
  rfl
theorem lc2_ok (ks : List Int) (st : Option Int) (most : Int) (hz : ks.length ≤ 1000) : lc2_numbers_to [some (letsD ks st), some (.int most), none] = .ok (.lst (((isort ks).filter fun n => decide (n ≤ most)).map .int)) := lc1_ok ks st most hz
theorem numbers_to_ok {ks : List Int} {st : Option Int} {most : Int} (hz : ks.length ≤ 1000) (hs : ∀ s, st = some s → -1000000 ≤ s ∧ s ≤ 1000000) (hm : -1000000 ≤ most ∧ most ≤ 1000000) : F_numbers_to [letsD ks st, .int most] = .ok (.lst ((numsTo ks st most).map .int)) := by
  have e1 := lc1_ok ks st most hz
  have e2 := lc2_ok ks st most hz
  cases st with
  | none =>
    simp only [F_numbers_to, M_numbers_to, cells, List.map, List.cons_append, List.nil_append, List.length_cons, List.length_nil, Vx.flatB, viewA_cons, viewA_nil, all_sh, all_no, getV_cons0, Out.bind_ok, meth_start, optD, isNon_non, Res.fin_ok, if_true, frzE, frz, List.foldl, viewS_cons, viewS_nil, shared_sh, shared_no, Nat.add_zero, Nat.zero_add, Nat.reduceAdd, Nat.reduceSub, List.replicate, e1]
    simp [numsTo, outP]
  | some s =>
    have hs' := hs s rfl
    have e3 : rgD s (most + 1) = .ok (.lst ((rng s (most + 1)).map .int)) := rgD_ok (by omega) (by omega)
    have hl : (((isort ks).filter fun n => decide (n ≤ most)).length) + (rng s (most + 1)).length ≤ sizeLine := by
      have h1 := List.length_filter_le (fun n => decide (n ≤ most)) (isort ks)
      rw [isort_len] at h1
      have h2 := len_rng s (most + 1)
      rw [sizeLine_eq]
      omega
    have e4 := add_lst hl
    simp only [F_numbers_to, M_numbers_to, cells, List.map, List.cons_append, List.nil_append, List.length_cons, List.length_nil, Vx.flatB, viewA_cons, viewA_nil, all_sh, all_no, getV_cons0, getV_succ, Out.bind_ok, meth_start, optD, isNon_int, Res.fin_ok, if_false, Bool.false_eq_true, SRes.then_nx, frzE, frz, List.foldl, viewS_cons, viewS_nil, shared_sh, shared_no, Nat.add_zero, Nat.zero_add, Nat.reduceAdd, Nat.reduceSub, List.replicate, e2, add_ok, e3, e4]
    simp [numsTo, outP]
end Ma
end
section
set_option maxRecDepth 100000
set_option maxHeartbeats 1000000
set_option exponentiation.threshold 1000
namespace Ma
open PySem PySem.Spec L2 Vx Dv Ev
open Out (guard)
def boundT (ks : List Int) (st : Option Int) : Int := maxOf (isort ks ++ [st.getD 0])
theorem max_lst {ns : List Int} (h : 0 < ns.length) : maxD [.lst (ns.map .int)] = .ok (.int (maxOf ns)) := by
  have e : maxD [.lst (ns.map .int)] = (Out.ok (ns.map D.int)).bind fun ds => (Out.ofOpt (ints? ds)).bind fun ns => guard (decide (0 < ns.length)) (.ok (.int (maxOf ns))) := id rfl
  rw [e, Out.bind_ok, ints?_map]
  show guard (decide (0 < ns.length)) _ = _
  rw [Out.guard_of (decide_eq_true h)]
theorem bound_of_ok {ks : List Int} {st : Option Int} (hz : ks.length ≤ 1000) : F_bound_of [letsD ks st] = .ok (.int (boundT ks st)) := by
  have sz1 : (1 : Nat) ≤ sizeLine := Nat.le_trans (by decide) szl
  have e0 : addD (.lst ((isort ks).map .int)) (.lst [.int (st.getD 0)]) = .ok (.lst ((isort ks ++ [st.getD 0]).map .int)) := add_lst (ys := [st.getD 0]) (by rw [isort_len]; have := szl; simp only [List.length_cons, List.length_nil]; omega)
  have e1 := max_lst (ns := isort ks ++ [st.getD 0]) (by simp)
  cases st with
  | none =>
    simp only [Option.getD_none] at e0 e1
    simp only [F_bound_of, M_bound_of, cells, List.map, List.cons_append, List.nil_append, List.length_cons, List.length_nil, flatE, viewA_cons, viewA_nil, all_sh, all_no, getV_cons0, getV_succ, Out.bind_ok, meth_start, meth_numbers, optD, isNon_non, Res.fin_ok, if_true, scalar_int, Nat.add_zero, Nat.zero_add, Nat.reduceAdd, Nat.reduceSub, List.replicate]
    rw [setC_eq (by rfl), orStuck_some, SRes.then_nx]
    simp only [List.set, viewA_cons, viewA_nil, all_sh, getV_cons0, getV_succ, Out.bind_ok, meth_numbers, List.length_cons, List.length_nil, Nat.zero_add, Out.guard_of (decide_eq_true sz1), e0, e1, scalar_int, if_true, Res.fin_ok]
    rfl
  | some s =>
    simp only [Option.getD_some] at e0 e1
    simp only [F_bound_of, M_bound_of, cells, List.map, List.cons_append, List.nil_append, List.length_cons, List.length_nil, flatE, viewA_cons, viewA_nil, all_sh, all_no, getV_cons0, getV_succ, Out.bind_ok, meth_start, meth_numbers, optD, isNon_int, Res.fin_ok, if_false, if_true, Bool.false_eq_true, scalar_int, Nat.add_zero, Nat.zero_add, Nat.reduceAdd, Nat.reduceSub, List.replicate]
    rw [setC_eq (by rfl), orStuck_some, SRes.then_nx]
    simp only [List.set, viewA_cons, viewA_nil, all_sh, getV_cons0, getV_succ, Out.bind_ok, meth_numbers, List.length_cons, List.length_nil, Nat.zero_add, Out.guard_of (decide_eq_true sz1), e0, e1, scalar_int, if_true, Res.fin_ok]
    rfl
theorem maxOf_le {ns : List Int} {n : Int} (h : n ∈ ns) : n ≤ maxOf ns := by
  cases ns with
  | nil => cases h
  | cons m ns =>
    have := foldl_max_ge ns m
    rcases List.mem_cons.mp h with rfl | h
    · exact this.1
    · exact this.2 n h
theorem le_bound {ks : List Int} {st : Option Int} {n : Int} (h : n ∈ ks) : n ≤ boundT ks st := maxOf_le (List.mem_append_left _ ((isort_perm ks).mem_iff.mpr h))
theorem start_bound {ks : List Int} {s : Int} : s ≤ boundT ks (some s) := maxOf_le (List.mem_append_right _ (by simp))
/-- beyond the bound the set says the same everywhere -/
theorem beyond {ks : List Int} {st : Option Int} {n m : Int} (hn : boundT ks st < n) (hm : boundT ks st < m) : inn ks st n = inn ks st m := by
  rw [Bool.eq_iff_iff, inn_iff, inn_iff]
  have a : ∀ {x}, boundT ks st < x → x ∉ ks := fun h z => by have := le_bound (st := st) z; omega
  constructor
  · rintro (h | ⟨s, rfl, h⟩)
    · exact absurd h (a hn)
    · exact .inr ⟨s, rfl, by have := start_bound (ks := ks) (s := s); omega⟩
  · rintro (h | ⟨s, rfl, h⟩)
    · exact absurd h (a hm)
    · exact .inr ⟨s, rfl, by have := start_bound (ks := ks) (s := s); omega⟩
end Ma
end
section
set_option maxRecDepth 100000
set_option maxHeartbeats 1000000
set_option exponentiation.threshold 1000
namespace Ma
open PySem PySem.Spec L2 Vx Dv Ev
open Out (guard)
/-- one look at a pair -/
def look (ks : List Int) (st : Option Int) (most : Int) (f : Option (Int × Int)) (low high : Int) : Option (Int × Int) :=
  if (decide (low ≤ high) && (decide (low + high ≤ most) && ((match f with | none => true | some p => decide (low + high < p.1 + p.2)) && (inn ks st (low + high) != inn ks st (low + high + 1))))) = true then some (low, high) else f
def scan (ks : List Int) (st : Option Int) (most : Int) (ns ms : List Int) (f : Option (Int × Int)) : Option (Int × Int) := ns.foldl (fun f low => ms.foldl (fun f high => look ks st most f low high) f) f
def faultP (ks : List Int) (st : Option Int) (most : Int) : Option (Int × Int) := scan ks st most (numsTo ks st most) (numsTo ks st most) none
def tcells (ks : List Int) (st : Option Int) (most : Int) (ns : List Int) (f : Option (Int × Int)) (c4 c5 : Cell) : Vx.Env := [.sh (letsD ks st), .sh (.int most), .sh (.lst (ns.map .int)), .sh (optP f), c4, c5]
theorem pair0 (p : Int × Int) : ixD (pairD p) (.int 0) = .ok (.int p.1) := id rfl
theorem pair1 (p : Int × Int) : ixD (pairD p) (.int 1) = .ok (.int p.2) := id rfl
theorem isNon_pair (p : Int × Int) : Vx.isNon (pairD p) = false := id rfl
theorem look_body (ks : List Int) (st : Option Int) (most : Int) (ns : List Int) (f : Option (Int × Int)) (low high : Int) : fb1_fault_to (tcells ks st most ns f (.sh (.int low)) (.sh (.int high))) = .nx (tcells ks st most ns (look ks st most f low high) (.sh (.int low)) (.sh (.int high))) := by
  have sz2 : (2 : Nat) ≤ sizeLine := Nat.le_trans (by decide) szl
  cases f with
  | none =>
    by_cases h1 : low ≤ high <;> by_cases h2 : low + high ≤ most <;> by_cases h3 : inn ks st (low + high) = inn ks st (low + high + 1) <;>
      simp [fb1_fault_to, tcells, optP, Vx.flatB, frzE, frz, in_lets, ne_bl, look, h1, h2, h3, sz2, setC_eq, pairD]
  | some p =>
    by_cases h1 : low ≤ high <;> by_cases h2 : low + high ≤ most <;> by_cases h4 : low + high < p.1 + p.2 <;> by_cases h3 : inn ks st (low + high) = inn ks st (low + high + 1) <;>
      simp [fb1_fault_to, tcells, optP, Vx.flatB, frzE, frz, in_lets, ne_bl, look, h1, h2, h3, h4, sz2, setC_eq, pair0, pair1, isNon_pair] <;> simp [pairD]
theorem foldl_map_int {α : Type} (g : α → Int → α) : ∀ (ns : List Int) (a : α), (ns.map D.int).foldl (fun a d => match d with | .int n => g a n | _ => a) a = ns.foldl g a
  | [], a => rfl
  | n :: ns, a => by
    rw [List.map_cons, List.foldl_cons, List.foldl_cons]
    exact foldl_map_int g ns (g a n)
theorem inner_ok (ks : List Int) (st : Option Int) (most : Int) (ns ms : List Int) (f : Option (Int × Int)) (low : Int) (c5 : Cell) (h5 : loose c5) : ∃ c, loose c ∧ forL (fun d ρ => setC ρ 5 (.sh d)) fb1_fault_to (ms.map .int) (tcells ks st most ns f (.sh (.int low)) c5) = .nx (tcells ks st most ns (ms.foldl (fun f high => look ks st most f low high) f) (.sh (.int low)) c) := by
  obtain ⟨ρ', h1, c, hc, h2⟩ := forL_rel (f := fun d ρ => setC ρ 5 (.sh d)) (body := fb1_fault_to) (R := fun (f : Option (Int × Int)) ρ => ∃ c, loose c ∧ ρ = tcells ks st most ns f (.sh (.int low)) c) (step := fun f d => match d with | .int high => look ks st most f low high | _ => f) (ds := ms.map .int) (s := f) ⟨c5, h5, rfl⟩ (fun d hd f ρ hI => by
    obtain ⟨c, hc, rfl⟩ := hI
    obtain ⟨high, _, rfl⟩ := List.mem_map.mp hd
    exact ⟨tcells ks st most ns f (.sh (.int low)) (.sh (.int high)), _, setC_eq (by exact hc), look_body ks st most ns f low high, .sh (.int high), rfl, rfl⟩)
  refine ⟨c, hc, ?_⟩
  rw [h1, h2, foldl_map_int (fun f high => look ks st most f low high)]
theorem fault_to_ok {ks : List Int} {st : Option Int} {most : Int} (hz : ks.length ≤ 1000) (hs : ∀ s, st = some s → -1000000 ≤ s ∧ s ≤ 1000000) (hm : -1000000 ≤ most ∧ most ≤ 1000000) : F_fault_to [letsD ks st, .int most] = .ok (optP (faultP ks st most)) := by
  have e0 := numbers_to_ok hz hs hm
  have e1 : frzI [] (fun ρ => (getV ρ 2).bind fun d => (itemsL d).bind .ok) (tcells ks st most (numsTo ks st most) none .no .no) = .ok ((numsTo ks st most).map .int) (tcells ks st most (numsTo ks st most) none .no .no) := id rfl
  obtain ⟨ρ', h1, c4, c5, h4, h5, h2⟩ := forL_rel (f := fun d ρ => setC ρ 4 (.sh d)) (body := fb2_fault_to) (R := fun (f : Option (Int × Int)) ρ => ∃ c4 c5, loose c4 ∧ loose c5 ∧ ρ = tcells ks st most (numsTo ks st most) f c4 c5) (step := fun f d => match d with | .int low => (numsTo ks st most).foldl (fun f high => look ks st most f low high) f | _ => f) (ds := (numsTo ks st most).map .int) (s := none) (ρ := tcells ks st most (numsTo ks st most) none .no .no) ⟨.no, .no, rfl, rfl, rfl⟩ (fun d hd f ρ hI => by
    obtain ⟨c4, c5, h4, h5, rfl⟩ := hI
    obtain ⟨low, _, rfl⟩ := List.mem_map.mp hd
    obtain ⟨c, hc, h⟩ := inner_ok ks st most (numsTo ks st most) (numsTo ks st most) f low c5 h5
    refine ⟨tcells ks st most (numsTo ks st most) f (.sh (.int low)) c5, _, setC_eq (by exact h4), ?_, .sh (.int low), c, rfl, hc, rfl⟩
    refine Eq.trans ?_ h
    rfl)
  rw [foldl_map_int (fun f low => (numsTo ks st most).foldl (fun f high => look ks st most f low high) f)] at h2
  have e2 : M_fault_to (cells [letsD ks st, .int most] 6) = (forL (fun d ρ => setC ρ 4 (.sh d)) fb2_fault_to ((numsTo ks st most).map .int) (tcells ks st most (numsTo ks st most) none .no .no)).then fun ρ => (frzE [] (fun ρ => getV ρ 3) ρ).fin fun d ρ => .rt d ρ := by
    unfold M_fault_to
    have e3 : frzE [] (fun ρ => ((getV ρ 0).bind fun d => ((getV ρ 1).bind fun d => (Out.ok []).bind fun ds => .ok (d :: ds)).bind fun ds => .ok (d :: ds)).bind fun ds => guard (decide (ds.length = 2)) (F_numbers_to ds)) (cells [letsD ks st, .int most] 6) = .ok (.lst ((numsTo ks st most).map .int)) (cells [letsD ks st, .int most] 6) := by
      simp [frzE, frz, cells, e0]
    rw [e3]
    rfl
  unfold F_fault_to
  rw [e2, h1, h2]
  rfl
end Ma
end
section
set_option maxRecDepth 100000
set_option maxHeartbeats 1000000
set_option exponentiation.threshold 1000
namespace Ma
open PySem PySem.Spec L2 Vx Dv Ev
open Out (guard)
/-! ### the least fault -/
/-- low and high fault the set i, their sum at most m -/
structure Bad (i : Int → Bool) (m low high : Int) : Prop where
  o : 1 ≤ low
  l : low ≤ high
  m : low + high ≤ m
  il : i low = true
  ih : i high = true
  p : i (low + high) ≠ i (low + high + 1)
def Least (i : Int → Bool) (m : Int) : Option (Int × Int) → Prop
  | none => ∀ low high, ¬ Bad i m low high
  | some p => Bad i m p.1 p.2 ∧ ∀ low high, Bad i m low high → p.1 + p.2 < low + high ∨ (p.1 + p.2 = low + high ∧ p.1 ≤ low)
theorem Least.unique {i : Int → Bool} {m : Int} {r r' : Option (Int × Int)} (h : Least i m r) (h' : Least i m r') : r = r' := by
  cases r with
  | none =>
    cases r' with
    | none => rfl
    | some p => exact absurd h'.1 (h p.1 p.2)
  | some p =>
    cases r' with
    | none => exact absurd h.1 (h' p.1 p.2)
    | some q =>
      obtain ⟨b, k⟩ := h
      obtain ⟨b', k'⟩ := h'
      have h1 := k q.1 q.2 b'
      have h2 := k' p.1 p.2 b
      have e1 : p.1 = q.1 := by omega
      have e2 : p.2 = q.2 := by omega
      rw [show p = (p.1, p.2) from rfl, show q = (q.1, q.2) from rfl, e1, e2]
theorem Least.congr {i j : Int → Bool} {m : Int} {r : Option (Int × Int)} (h : Least i m r) (e : ∀ n, i n = j n) : Least j m r := by
  have : i = j := funext e
  rw [← this]; exact h
theorem bad_more {i : Int → Bool} {m m' : Int} (h : ∀ n, m < n → n ≤ m' → i n = i (n + 1)) (hm : m ≤ m') {low high : Int} : Bad i m low high ↔ Bad i m' low high := by
  constructor
  · intro b
    exact ⟨b.o, b.l, by have := b.m; omega, b.il, b.ih, b.p⟩
  · intro b
    refine ⟨b.o, b.l, ?_, b.il, b.ih, b.p⟩
    by_cases q : low + high ≤ m
    · exact q
    · exact absurd (h (low + high) (by omega) b.m) b.p
theorem Least.more {i : Int → Bool} {m m' : Int} {r : Option (Int × Int)} (h : ∀ n, m < n → n ≤ m' → i n = i (n + 1)) (hm : m ≤ m') : Least i m r ↔ Least i m' r := by
  cases r with
  | none => exact ⟨fun k low high b => k low high ((bad_more h hm).mpr b), fun k low high b => k low high ((bad_more h hm).mp b)⟩
  | some p => exact ⟨fun ⟨a, k⟩ => ⟨(bad_more h hm).mp a, fun low high b => k low high ((bad_more h hm).mpr b)⟩, fun ⟨a, k⟩ => ⟨(bad_more h hm).mpr a, fun low high b => k low high ((bad_more h hm).mp b)⟩⟩
/-! the law's own search -/
theorem findSome_sorted {α : Type} {f : Int → Option α} : ∀ {ns : List Int}, ns.Pairwise (· < ·) → (ns.findSome? f = none ∧ ∀ n ∈ ns, f n = none) ∨ ∃ n r, n ∈ ns ∧ f n = some r ∧ ns.findSome? f = some r ∧ ∀ k ∈ ns, k < n → f k = none
  | [], _ => .inl ⟨rfl, fun _ h => by cases h⟩
  | n :: ns, h => by
    obtain ⟨h1, h2⟩ := List.pairwise_cons.mp h
    rw [List.findSome?_cons]
    cases q : f n with
    | some r => exact .inr ⟨n, r, List.mem_cons_self, q, rfl, fun k hk hlt => by
        rcases List.mem_cons.mp hk with rfl | hk
        · omega
        · have := h1 k hk; omega⟩
    | none =>
      rcases findSome_sorted (f := f) h2 with ⟨e, k⟩ | ⟨m, r, hm, e1, e2, k⟩
      · exact .inl ⟨e, fun z hz => by
          rcases List.mem_cons.mp hz with rfl | hz
          · exact q
          · exact k z hz⟩
      · exact .inr ⟨m, r, List.mem_cons_of_mem _ hm, e1, e2, fun z hz hlt => by
          rcases List.mem_cons.mp hz with rfl | hz
          · exact q
          · exact k z hz hlt⟩
theorem inside_sorted (ns : List Int) (st : Option Int) (most : Int) : (inside ns st most).Pairwise (· < ·) := (rng_sorted 1 (most + 1)).sublist List.filter_sublist
theorem mem_inside {ns : List Int} {st : Option Int} {most n : Int} : n ∈ inside ns st most ↔ (1 ≤ n ∧ n < most + 1) ∧ inn ns st n = true := by
  unfold inside
  rw [List.mem_filter, mem_rng]
theorem parts_bad {ns : List Int} {st : Option Int} {most total low : Int} (h1 : 2 ≤ total ∧ total < most + 1) (hl : low ∈ inside ns st most) (hp : parts ns st total low = true) : Bad (inn ns st) most low (total - low) := by
  unfold parts at hp
  simp only [Bool.and_eq_true, decide_eq_true_eq, bne_iff_ne, ne_eq] at hp
  obtain ⟨⟨a, b⟩, c⟩ := mem_inside.mp hl
  refine ⟨a, hp.1, by omega, c, hp.2.1, ?_⟩
  rw [show low + (total - low) = total by omega]
  exact hp.2.2
theorem bad_parts {ns : List Int} {st : Option Int} {most low high : Int} (b : Bad (inn ns st) most low high) : (low + high ∈ rng 2 (most + 1)) ∧ low ∈ inside ns st most ∧ parts ns st (low + high) low = true := by
  obtain ⟨b1, b2, b3, b4, b5, b6⟩ := b
  refine ⟨mem_rng.mpr (by omega), mem_inside.mpr ⟨by omega, b4⟩, ?_⟩
  unfold parts
  simp only [Bool.and_eq_true, decide_eq_true_eq, bne_iff_ne, ne_eq]
  rw [show low + high - low = high by omega]
  exact ⟨b2, b5, b6⟩
theorem faultT_least (ns : List Int) (st : Option Int) (most : Int) : Least (inn ns st) most (faultT ns st most) := by
  unfold faultT
  rcases findSome_sorted (f := fun total => (inside ns st most).findSome? fun low => if parts ns st total low = true then some (low, total - low) else none) (rng_sorted 2 (most + 1)) with ⟨e, k⟩ | ⟨t, r, ht, e1, e2, k⟩
  · rw [e]
    intro low high b
    obtain ⟨h1, h2, h3⟩ := bad_parts b
    rcases findSome_sorted (f := fun l => if parts ns st (low + high) l = true then some (l, low + high - l) else none) (inside_sorted ns st most) with ⟨_, k2⟩ | ⟨_, _, _, _, e3, _⟩
    · have := k2 low h2
      rw [if_pos h3] at this; cases this
    · have := k _ h1
      rw [e3] at this; cases this
  · rw [e2]
    rcases findSome_sorted (f := fun l => if parts ns st t l = true then some (l, t - l) else none) (inside_sorted ns st most) with ⟨e3, _⟩ | ⟨l, r', hl, e3, e4, k3⟩
    · rw [e3] at e1; cases e1
    · rw [e4] at e1
      cases e1
      have hp : parts ns st t l = true := by
        by_cases q : parts ns st t l = true
        · exact q
        · rw [if_neg q] at e3; cases e3
      rw [if_pos hp] at e3
      cases e3
      have ht' := mem_rng.mp ht
      refine ⟨parts_bad ht' hl hp, fun low high b => ?_⟩
      obtain ⟨h1, h2, h3⟩ := bad_parts b
      show l + (t - l) < low + high ∨ (l + (t - l) = low + high ∧ l ≤ low)
      by_cases q1 : low + high < t
      · exfalso
        have := k _ h1 q1
        rcases findSome_sorted (f := fun l => if parts ns st (low + high) l = true then some (l, low + high - l) else none) (inside_sorted ns st most) with ⟨_, k2⟩ | ⟨_, _, _, _, e5, _⟩
        · have := k2 low h2
          rw [if_pos h3] at this; cases this
        · rw [e5] at this; cases this
      · by_cases q2 : low + high = t
        · refine .inr ⟨by omega, ?_⟩
          by_cases q3 : low < l
          · have := k3 low h2 q3
            rw [← q2, if_pos h3] at this; cases this
          · omega
        · exact .inl (by omega)
end Ma
end
section
set_option maxRecDepth 100000
set_option maxHeartbeats 1000000
set_option exponentiation.threshold 1000
namespace Ma
open PySem PySem.Spec L2 Vx Dv Ev
open Out (guard)
/-! ### the program's search -/
def Good (i : Int → Bool) (m : Int) (p : Int × Int) : Prop := p.1 ≤ p.2 ∧ p.1 + p.2 ≤ m ∧ i (p.1 + p.2) ≠ i (p.1 + p.2 + 1)
/-- the best of the pairs seen -/
def Best (i : Int → Bool) (m : Int) (seen : List (Int × Int)) : Option (Int × Int) → Prop
  | none => ∀ p ∈ seen, ¬ Good i m p
  | some p => p ∈ seen ∧ Good i m p ∧ ∀ q ∈ seen, Good i m q → p.1 + p.2 < q.1 + q.2 ∨ (p.1 + p.2 = q.1 + q.2 ∧ p.1 ≤ q.1)
def hit (ks : List Int) (st : Option Int) (most : Int) (f : Option (Int × Int)) (low high : Int) : Bool := decide (low ≤ high) && (decide (low + high ≤ most) && ((match f with | none => true | some p => decide (low + high < p.1 + p.2)) && (inn ks st (low + high) != inn ks st (low + high + 1))))
theorem hit_none {ks : List Int} {st : Option Int} {m low high : Int} : hit ks st m none low high = true ↔ Good (inn ks st) m (low, high) := by
  unfold hit Good
  simp
theorem hit_some {ks : List Int} {st : Option Int} {m low high : Int} {p : Int × Int} : hit ks st m (some p) low high = true ↔ Good (inn ks st) m (low, high) ∧ low + high < p.1 + p.2 := by
  unfold hit Good
  simp only [Bool.and_eq_true, decide_eq_true_eq, bne_iff_ne, ne_eq]
  exact ⟨fun ⟨a, b, c, d⟩ => ⟨⟨a, b, d⟩, c⟩, fun ⟨⟨a, b, d⟩, c⟩ => ⟨a, b, c, d⟩⟩
theorem look_best {ks : List Int} {st : Option Int} {m : Int} {seen : List (Int × Int)} {f : Option (Int × Int)} {x : Int × Int} (h : Best (inn ks st) m seen f) (hx : ∀ s ∈ seen, s.1 ≤ x.1) : Best (inn ks st) m (seen ++ [x]) (look ks st m f x.1 x.2) := by
  have e : look ks st m f x.1 x.2 = if hit ks st m f x.1 x.2 = true then some (x.1, x.2) else f := rfl
  rw [e]
  have mem : ∀ {q}, q ∈ seen ++ [x] ↔ q ∈ seen ∨ q = x := fun {q} => by rw [List.mem_append, List.mem_singleton]
  cases f with
  | none =>
    by_cases c : hit ks st m none x.1 x.2 = true
    · rw [if_pos c]
      refine ⟨mem.mpr (.inr rfl), hit_none.mp c, fun q hq gq => ?_⟩
      rcases mem.mp hq with hq | rfl
      · exact absurd gq (h q hq)
      · exact .inr ⟨rfl, Int.le_refl _⟩
    · rw [if_neg c]
      intro q hq gq
      rcases mem.mp hq with hq | rfl
      · exact h q hq gq
      · exact c (hit_none.mpr gq)
  | some p =>
    by_cases c : hit ks st m (some p) x.1 x.2 = true
    · rw [if_pos c]
      obtain ⟨c1, c2⟩ := hit_some.mp c
      refine ⟨mem.mpr (.inr rfl), c1, fun q hq gq => ?_⟩
      rcases mem.mp hq with hq | rfl
      · have := h.2.2 q hq gq
        left
        show x.1 + x.2 < q.1 + q.2
        omega
      · exact .inr ⟨rfl, Int.le_refl _⟩
    · rw [if_neg c]
      refine ⟨mem.mpr (.inl h.1), h.2.1, fun q hq gq => ?_⟩
      rcases mem.mp hq with hq | rfl
      · exact h.2.2 q hq gq
      · have nt : ¬ (q.1 + q.2 < p.1 + p.2) := fun z => c (hit_some.mpr ⟨gq, z⟩)
        by_cases e : p.1 + p.2 = q.1 + q.2
        · exact .inr ⟨e, hx p h.1⟩
        · exact .inl (by omega)
theorem row_best {ks : List Int} {st : Option Int} {m low : Int} : ∀ {ms : List Int} {seen : List (Int × Int)} {f : Option (Int × Int)}, Best (inn ks st) m seen f → (∀ s ∈ seen, s.1 ≤ low) → Best (inn ks st) m (seen ++ ms.map fun h => (low, h)) (ms.foldl (fun f high => look ks st m f low high) f)
  | [], seen, f, h, _ => by rw [List.map_nil, List.append_nil]; exact h
  | x :: ms, seen, f, h, hs => by
    rw [List.foldl_cons, List.map_cons, show seen ++ (low, x) :: ms.map (fun h => (low, h)) = (seen ++ [(low, x)]) ++ ms.map (fun h => (low, h)) by simp]
    refine row_best (look_best (x := (low, x)) h hs) fun s hs' => ?_
    rcases List.mem_append.mp hs' with z | z
    · exact hs s z
    · rw [List.mem_singleton.mp z]; exact Int.le_refl _
theorem scan_best {ks : List Int} {st : Option Int} {m : Int} {ms : List Int} : ∀ {ns : List Int} {seen : List (Int × Int)} {f : Option (Int × Int)}, Best (inn ks st) m seen f → ns.Pairwise (· ≤ ·) → (∀ s ∈ seen, ∀ n ∈ ns, s.1 ≤ n) → Best (inn ks st) m (seen ++ ns.flatMap fun l => ms.map fun h => (l, h)) (scan ks st m ns ms f)
  | [], seen, f, h, _, _ => by rw [List.flatMap_nil, List.append_nil]; exact h
  | n :: ns, seen, f, h, hp, hs => by
    obtain ⟨p1, p2⟩ := List.pairwise_cons.mp hp
    unfold scan
    rw [List.foldl_cons, List.flatMap_cons, ← List.append_assoc]
    refine scan_best (row_best h fun s z => hs s z n List.mem_cons_self) p2 fun s z k hk => ?_
    rcases List.mem_append.mp z with z | z
    · exact hs s z k (List.mem_cons_of_mem _ hk)
    · obtain ⟨x, _, rfl⟩ := List.mem_map.mp z
      exact p1 k hk
/-- the search over numbers in order finds the least fault -/
theorem scan_least {ks : List Int} {st : Option Int} {m : Int} {ns : List Int} (hp : ns.Pairwise (· ≤ ·)) (hm : ∀ n, n ∈ ns ↔ (1 ≤ n ∧ n ≤ m) ∧ inn ks st n = true) : Least (inn ks st) m (scan ks st m ns ns none) := by
  have h := scan_best (ks := ks) (st := st) (m := m) (ms := ns) (ns := ns) (seen := []) (f := none) (fun _ z => by cases z) hp (fun _ z => by cases z)
  rw [List.nil_append] at h
  have mem : ∀ {p : Int × Int}, p ∈ (ns.flatMap fun l => ns.map fun h => (l, h)) ↔ p.1 ∈ ns ∧ p.2 ∈ ns := fun {p} => by
    rw [List.mem_flatMap]
    constructor
    · rintro ⟨l, hl, z⟩
      obtain ⟨x, hx, rfl⟩ := List.mem_map.mp z
      exact ⟨hl, hx⟩
    · rintro ⟨a, b⟩
      exact ⟨p.1, a, List.mem_map.mpr ⟨p.2, b, rfl⟩⟩
  have bg : ∀ {low high}, Bad (inn ks st) m low high → ((low, high) ∈ (ns.flatMap fun l => ns.map fun h => (l, h)) ∧ Good (inn ks st) m (low, high)) := fun {low high} b => by
    obtain ⟨b1, b2, b3, b4, b5, b6⟩ := b
    exact ⟨mem.mpr ⟨(hm low).mpr ⟨by omega, b4⟩, (hm high).mpr ⟨by omega, b5⟩⟩, b2, b3, b6⟩
  cases q : scan ks st m ns ns none with
  | none =>
    rw [q] at h
    exact fun low high b => h _ (bg b).1 (bg b).2
  | some p =>
    rw [q] at h
    obtain ⟨h1, h2, h3⟩ := h
    obtain ⟨m1, m2⟩ := mem.mp h1
    obtain ⟨⟨a1, _⟩, a2⟩ := (hm p.1).mp m1
    obtain ⟨_, a3⟩ := (hm p.2).mp m2
    exact ⟨⟨a1, h2.1, h2.2.1, a2, a3, h2.2.2⟩, fun low high b => h3 (low, high) (bg b).1 (bg b).2⟩
end Ma
end
section
set_option maxRecDepth 100000
set_option maxHeartbeats 1000000
set_option exponentiation.threshold 1000
namespace Ma
open PySem PySem.Spec L2 Vx Dv Ev
open Out (guard)
/-- an object in good order: keys from 1, below the start -/
structure Neat (ks : List Int) (st : Option Int) : Prop where
  one : ∀ k ∈ ks, 1 ≤ k
  sta : ∀ s, st = some s → 1 ≤ s ∧ ∀ k ∈ ks, k < s
theorem lower_neat : ∀ {f : Nat} {ks : List Int} {s : Int}, (∀ k ∈ ks, 1 ≤ k) → 1 ≤ s → (∀ k ∈ ks, k < s) → (∀ k ∈ (lower f ks s).1, 1 ≤ k ∧ k < (lower f ks s).2) ∧ 1 ≤ (lower f ks s).2 ∧ (lower f ks s).2 ≤ s
  | 0, ks, s, h1, h2, h3 => ⟨fun k hk => ⟨h1 k hk, h3 k hk⟩, h2, Int.le_refl _⟩
  | f + 1, ks, s, h1, h2, h3 => by
    unfold lower
    by_cases q : s - 1 ∈ ks
    · rw [if_pos q]
      obtain ⟨a, b, c⟩ := lower_neat (f := f) (ks := ks.filter fun k => decide (k ≠ s - 1)) (s := s - 1) (fun k hk => h1 k (List.mem_filter.mp hk).1) (h1 _ q) (fun k hk => by
        obtain ⟨x, y⟩ := List.mem_filter.mp hk
        have := h3 k x
        have : k ≠ s - 1 := by simpa using y
        omega)
      exact ⟨a, b, by omega⟩
    · rw [if_neg q]; exact ⟨fun k hk => ⟨h1 k hk, h3 k hk⟩, h2, Int.le_refl _⟩
theorem settle_neat {ns : List Int} {st : Option Int} (h : Told ns st) : Neat (settle (keysOf st ns) st).1 (settle (keysOf st ns) st).2 := by
  cases st with
  | none => exact ⟨fun k hk => (h.num k (mem_keysOf.mp hk).1).1, fun s hs => by cases hs⟩
  | some s =>
    obtain ⟨a, b, c⟩ := lower_neat (f := (keysOf (some s) ns).length + 1) (ks := keysOf (some s) ns) (s := s) (fun k hk => (h.num k (mem_keysOf.mp hk).1).1) (h.sta s rfl).1 (fun k hk => by simpa [below] using (mem_keysOf.mp hk).2)
    exact ⟨fun k hk => (a k hk).1, fun t ht => by cases ht; exact ⟨b, fun k hk => (a k hk).2⟩⟩
theorem mem_numsTo {ks : List Int} {st : Option Int} (h : Neat ks st) {m n : Int} : n ∈ numsTo ks st m ↔ (1 ≤ n ∧ n ≤ m) ∧ inn ks st n = true := by
  unfold numsTo
  rw [List.mem_append, List.mem_filter, (isort_perm ks).mem_iff, decide_eq_true_eq, inn_iff]
  cases st with
  | none =>
    simp only [List.not_mem_nil, or_false]
    constructor
    · rintro ⟨a, b⟩; exact ⟨⟨h.one n a, b⟩, .inl a⟩
    · rintro ⟨⟨_, b⟩, a | ⟨s, z, _⟩⟩
      · exact ⟨a, b⟩
      · cases z
  | some s =>
    obtain ⟨s1, s2⟩ := h.sta s rfl
    show (n ∈ ks ∧ n ≤ m) ∨ n ∈ rng s (m + 1) ↔ _
    rw [mem_rng]
    constructor
    · rintro (⟨a, b⟩ | ⟨a, b⟩)
      · exact ⟨⟨h.one n a, b⟩, .inl a⟩
      · exact ⟨⟨by omega, by omega⟩, .inr ⟨s, rfl, a⟩⟩
    · rintro ⟨⟨_, b⟩, a | ⟨t, z, a⟩⟩
      · exact .inl ⟨a, b⟩
      · cases z; exact .inr ⟨a, by omega⟩
theorem numsTo_sorted {ks : List Int} {st : Option Int} (h : Neat ks st) (m : Int) : (numsTo ks st m).Pairwise (· ≤ ·) := by
  unfold numsTo
  rw [List.pairwise_append]
  refine ⟨(isort_sorted ks).sublist List.filter_sublist, ?_, ?_⟩
  · cases st with
    | none => exact .nil
    | some s => exact (rng_sorted s (m + 1)).imp fun h => by omega
  · intro a ha b hb
    cases st with
    | none => cases hb
    | some s =>
      have := (h.sta s rfl).2 a ((isort_perm ks).mem_iff.mp (List.mem_filter.mp ha).1)
      have := (mem_rng.mp hb).1
      omega
theorem faultP_least {ks : List Int} {st : Option Int} (h : Neat ks st) (m : Int) : Least (inn ks st) m (faultP ks st m) := scan_least (numsTo_sorted h m) fun n => mem_numsTo h
/-- the program's fault of an object is the law's, asked far enough -/
theorem fault_same {ns : List Int} {st : Option Int} (h : Told ns st) {m : Int} (hm : boundT (settle (keysOf st ns) st).1 (settle (keysOf st ns) st).2 ≤ m) :
    faultP (settle (keysOf st ns) st).1 (settle (keysOf st ns) st).2 (boundT (settle (keysOf st ns) st).1 (settle (keysOf st ns) st).2) = faultT ns st m := by
  have a := faultP_least (settle_neat h) (boundT (settle (keysOf st ns) st).1 (settle (keysOf st ns) st).2)
  have b := (Least.more (fun n h1 _ => beyond h1 (by omega)) hm).mp a
  exact Least.unique (b.congr (inn_settle ns st)) (faultT_least ns st m)
end Ma
end
section
set_option maxRecDepth 100000
set_option maxHeartbeats 1000000
set_option exponentiation.threshold 1000
namespace Ma
open PySem PySem.Spec L2 Vx Dv Ev
open Out (guard)
theorem iso_lets (ks : List Int) (st : Option Int) : isoD 0 (letsD ks st) = .ok (.bl true) := by
  show guard (decide (0 = 0)) _ = _
  rfl
theorem check_lets_ok (ks : List Int) (st : Option Int) : F_check_lets [letsD ks st] = .ok .non := by
  simp [F_check_lets, M_check_lets, cells, Vx.flatB, outP, iso_lets]
/-- an object small enough -/
structure Fit (ks : List Int) (st : Option Int) : Prop where
  len : ks.length ≤ 1000
  sta : ∀ s, st = some s → -1000000 ≤ s ∧ s ≤ 1000000
  bnd : -1000000 ≤ boundT ks st ∧ boundT ks st ≤ 1000000
theorem fault_bound {ks : List Int} {st : Option Int} (h : Fit ks st) : F_fault_to [letsD ks st, .int (boundT ks st)] = .ok (optP (faultP ks st (boundT ks st))) := fault_to_ok h.len h.sta h.bnd
theorem isNon_optP (f : Option (Int × Int)) : Vx.isNon (optP f) = f.isNone := by cases f <;> rfl
theorem is_good_ok {ks : List Int} {st : Option Int} (h : Fit ks st) : F_is_good [letsD ks st] = .ok (.bl (faultP ks st (boundT ks st)).isNone) := by
  simp [F_is_good, M_is_good, cells, flatE, outP, fault_bound h, bound_of_ok h.len, isNon_optP]
theorem good_ok {ks : List Int} {st : Option Int} (h : Fit ks st) : F_good [letsD ks st] = .ok (.bl (faultP ks st (boundT ks st)).isNone) := by
  simp [F_good, M_good, cells, flatE, frzE, frz, outP, check_lets_ok, is_good_ok h]
theorem fault_ok {ks : List Int} {st : Option Int} (h : Fit ks st) : F_fault [letsD ks st] = .ok (optP (faultP ks st (boundT ks st))) := by
  simp [F_fault, M_fault, cells, flatE, frzE, frz, outP, check_lets_ok, fault_bound h, bound_of_ok h.len]
end Ma
end
section
set_option maxRecDepth 100000
set_option maxHeartbeats 1000000
set_option exponentiation.threshold 1000
namespace Ma
open PySem PySem.Spec L2 Vx Dv Ev
open Out (guard)
theorem check_number_ok {n lo hi : Int} (h : lo ≤ n ∧ n ≤ hi) : F_check_number [.int n, .int lo, .int hi] = .ok .non := by
  simp [F_check_number, M_check_number, cells, Vx.flatB, outP, is_between_int, h.1, h.2]
theorem min2 (i j : Int) : minD [.int i, .int j] = .ok (.int (if j < i then j else i)) := id rfl
def reach (ks : List Int) (st : Option Int) (length : Int) : Int := if boundT ks st < length - 3 then boundT ks st else length - 3
theorem good_to_ok {ks : List Int} {st : Option Int} (h : Fit ks st) {length : Int} (hl : 0 ≤ length ∧ length ≤ 10000) : F_good_to [letsD ks st, .int length] = .ok (.bl (faultP ks st (reach ks st length)).isNone) := by
  have e : F_fault_to [letsD ks st, .int (reach ks st length)] = .ok (optP (faultP ks st (reach ks st length))) := fault_to_ok h.len h.sta (by have := h.bnd; unfold reach; split <;> omega)
  have e2 : minD [.int (length - 3), .int (boundT ks st)] = .ok (.int (reach ks st length)) := min2 _ _
  simp [F_good_to, M_good_to, cells, flatE, frzE, frz, outP, check_lets_ok, check_number_ok hl, bound_of_ok h.len, e2, e, isNon_optP]
def holdsT : Option (Int × Int) → D
  | none => .non
  | some p => .int (p.1 + p.2 + 2)
theorem holds_to_ok {ks : List Int} {st : Option Int} (h : Fit ks st) : F_holds_to [letsD ks st] = .ok (holdsT (faultP ks st (boundT ks st))) := by
  have e := fault_ok h
  cases q : faultP ks st (boundT ks st) with
  | none =>
    rw [q] at e
    simp only [optP] at e
    simp [F_holds_to, M_holds_to, cells, flatE, frzE, frz, outP, e, setC_eq, holdsT]
  | some p =>
    rw [q] at e
    simp only [optP] at e
    simp [F_holds_to, M_holds_to, cells, flatE, frzE, frz, outP, e, setC_eq, holdsT, isNon_pair, pair0, pair1]
end Ma
end
section
set_option maxRecDepth 100000
set_option maxHeartbeats 1000000
set_option exponentiation.threshold 1000
namespace Ma
open PySem PySem.Spec L2 Vx Dv Ev
open Out (guard)
theorem sh_ints (xs : List Int) : SeqAt.shaped (py (.lst (xs.map .int))) = true := by
  show SeqAt.shaped (.list (pys (xs.map .int))) = true
  rw [pys_ints]
  exact PySem.W.shaped_ints xs
theorem eqv_ints : ∀ xs ys : List Int, PyData.eqvAll (pys (xs.map .int)) (pys (ys.map .int)) = decide (xs = ys)
  | [], [] => rfl
  | [], _ :: _ => rfl
  | _ :: _, [] => rfl
  | x :: xs, y :: ys => by
    show (PyData.eqv (.int x) (.int y) && PyData.eqvAll (pys (xs.map .int)) (pys (ys.map .int))) = _
    rw [eqv_ints xs ys]
    show ((x == y) && decide (xs = ys)) = _
    by_cases h : x = y <;> by_cases h2 : xs = ys <;> simp [h, h2]
theorem eq_ints (xs ys : List Int) : eqD (.lst (xs.map .int)) (.lst (ys.map .int)) = .ok (.bl (decide (xs = ys))) := by
  unfold eqD
  rw [Out.guard_of (by rw [sh_ints, sh_ints]; rfl)]
  show Out.ok (D.bl (PyData.eqvAll (pys (xs.map .int)) (pys (ys.map .int)))) = _
  rw [eqv_ints]
theorem ne_ints (xs ys : List Int) : neD (.lst (xs.map .int)) (.lst (ys.map .int)) = .ok (.bl (!decide (xs = ys))) := by
  unfold neD
  rw [Out.guard_of (by rw [sh_ints, sh_ints]; rfl)]
  show Out.ok (D.bl (!PyData.eqvAll (pys (xs.map .int)) (pys (ys.map .int)))) = _
  rw [eqv_ints]
def rich (ks : List Int) (st : Option Int) (low high : Int) : Bool := inn ks st (low + high) || inn ks st (low + high + 1)
theorem is_rich_ok (ks : List Int) (st : Option Int) (ns : List Int) (low : Int) (hz : ns.length ≤ 1000) : F_is_rich [letsD ks st, .lst (ns.map .int), .int low] = .ok (.bl (!decide (ns.filter (rich ks st low) = []))) := by
  have e : lc1_is_rich [some (letsD ks st), some (.lst (ns.map .int)), some (.int low), none] = .ok (.lst ((ns.filter (rich ks st low)).map .int)) := by
    refine lcP_filter (ns := ns) (p := rich ks st low) rfl (Nat.le_trans hz (Nat.le_trans (by decide) szl)) fun n hn => ⟨[some (letsD ks st), some (.lst (ns.map .int)), some (.int low), some (.int n)], rfl, ?_, fun _ => rfl⟩
    by_cases h : inn ks st (low + n) = true <;> simp [in_lets, rich, h]
  have e2 := ne_ints (ns.filter (rich ks st low)) []
  rw [List.map_nil] at e2
  have sz0 : (0 : Nat) ≤ sizeLine := Nat.zero_le _
  simp only [F_is_rich, M_is_rich, cells, List.map, List.cons_append, List.nil_append, List.length_cons, List.length_nil, flatE, viewA_cons, viewA_nil, all_sh, all_no, Nat.add_zero, Nat.zero_add, Nat.reduceAdd, Nat.reduceSub, List.replicate, e, Out.bind_ok, Out.guard_of (decide_eq_true sz0), e2, scalar_bl, if_true, Res.fin_ok]
  rfl
end Ma
end
section
set_option maxRecDepth 100000
set_option maxHeartbeats 1000000
set_option exponentiation.threshold 1000
namespace Ma
open PySem PySem.Spec L2 Vx Dv Ev
open Out (guard)
/-- ones for the lows that are rich -/
theorem lcP_ones {mi : PEnv → Out (List D)} {fg : D → PEnv → Out PEnv} {mt : PEnv → Out Bool} {me : PEnv → Out D} {vs : List Nat} {ρ : PEnv} {ns : List Int} {p : Int → Bool} (hi : mi ρ = .ok (ns.map .int)) (hz : ns.length ≤ sizeLine)
    (h : ∀ n ∈ ns, ∃ ρ2, fg (.int n) (wipeV ρ vs) = .ok ρ2 ∧ mt ρ2 = .ok (p n) ∧ (p n = true → me ρ2 = .ok (.int 1))) : lcP mi fg mt me vs ρ = .ok (.lst (((ns.filter p).map fun _ => (1 : Int)).map .int)) := by
  have e := lcP_ok (me := me) (mt := mt) (fg := fg) (vs := vs) (g := fun d => match d with | .int n => if p n = true then some (.int 1) else none | _ => none) hi (by rw [List.length_map]; exact hz) (fun d hd => by
    obtain ⟨n, hn, rfl⟩ := List.mem_map.mp hd
    obtain ⟨ρ2, h1, h2, h3⟩ := h n hn
    unfold compF
    rw [h1, Out.bind_ok, h2, Out.bind_ok]
    cases q : p n with
    | true => rw [if_pos rfl, h3 q]; simp [q]
    | false => simp [q])
  rw [e]
  congr 2
  clear e hi hz h
  induction ns with
  | nil => rfl
  | cons n ns ih =>
    rw [List.map_cons, List.filterMap_cons, List.filter_cons]
    cases q : p n with
    | true => simp only [q, if_true, List.map_cons]; rw [ih]
    | false => simp only [q, if_false, Bool.false_eq_true]; exact ih
def richAny (ks : List Int) (st : Option Int) (low : Int) : Bool := !decide ((isort ks).filter (rich ks st low) = [])
theorem lean_list (ks : List Int) (hz : ks.length ≤ 1000) : lc1_lean [some (letsD ks none), some (.lst ((isort ks).map .int)), none] = .ok (.lst ((((isort ks).filter (richAny ks none)).map fun _ => (1 : Int)).map .int)) :=
  lcP_ones (ns := isort ks) (p := richAny ks none) rfl (by rw [isort_len]; exact Nat.le_trans hz (Nat.le_trans (by decide) szl)) fun n hn => ⟨[some (letsD ks none), some (.lst ((isort ks).map .int)), some (.int n)], rfl, by
    simp [is_rich_ok ks none (isort ks) n (by rw [isort_len]; exact hz), richAny], fun _ => rfl⟩
end Ma
end
section
set_option maxRecDepth 100000
set_option maxHeartbeats 1000000
set_option exponentiation.threshold 1000
namespace Ma
open PySem PySem.Spec L2 Vx Dv Ev
open Out (guard)
def leanP (ks : List Int) : Option Int → Bool
  | some _ => false
  | none => decide ((isort ks).filter (richAny ks none) = [])
theorem lean_ok (ks : List Int) (st : Option Int) (hz : ks.length ≤ 1000) : F_lean [letsD ks st] = .ok (.bl (leanP ks st)) := by
  cases st with
  | some s => simp [F_lean, M_lean, cells, flatE, Vx.flatB, frzE, frz, outP, check_lets_ok, meth_start, optD, leanP]
  | none =>
    have e := lean_list ks hz
    have e2 := eq_ints (((isort ks).filter (richAny ks none)).map fun _ => (1 : Int)) []
    rw [List.map_nil] at e2
    have sz0 : (0 : Nat) ≤ sizeLine := Nat.zero_le _
    simp only [F_lean, M_lean, cells, List.map, List.cons_append, List.nil_append, List.length_cons, List.length_nil, flatE, Vx.flatB, frzE, frz, List.foldl, viewA_cons, viewA_nil, viewS_cons, viewS_nil, shared_sh, shared_no, all_sh, all_no, Nat.add_zero, Nat.zero_add, Nat.reduceAdd, Nat.reduceSub, List.replicate, getV_cons0, Out.bind_ok, decide_true, Out.guard_true, check_lets_ok, Res.fin_ok, SRes.then_nx, meth_start, optD, isNon_non, Bool.not_true, Bool.false_eq_true, if_false, meth_numbers]
    rw [setC_eq (by rfl), orStuck_some, SRes.then_nx]
    simp only [List.set, viewA_cons, viewA_nil, all_sh, all_ow, all_no, e, Out.bind_ok, List.length_nil, Out.guard_of (decide_eq_true sz0), e2, scalar_bl, if_true, Res.fin_ok]
    show Out.ok (D.bl _) = _
    simp [leanP]
end Ma
end
section
set_option maxRecDepth 100000
set_option maxHeartbeats 1000000
set_option exponentiation.threshold 1000
namespace Ma
open PySem PySem.Spec L2 Vx Dv Ev
open Out (guard)
theorem eq_opt (a b : Option Int) : eqD (optD a) (optD b) = .ok (.bl (decide (a = b))) := by
  have hs : ∀ o : Option Int, SeqAt.shaped (py (optD o)) = true := fun o => by
    cases o with
    | none => exact sh_non
    | some i => exact sh_int i
  unfold eqD
  rw [Out.guard_of (by rw [hs, hs]; rfl)]
  cases a with
  | none => cases b <;> rfl
  | some i =>
    cases b with
    | none => rfl
    | some j =>
      show Out.ok (D.bl (i == j)) = _
      congr 2
      by_cases h : i = j <;> simp [h]
theorem lets_eq_ok (ks ls : List Int) (st su : Option Int) : F_Lets_eq [letsD ks st, letsD ls su] = .ok (.bl (decide (isort ks = isort ls) && decide (st = su))) := by
  have e1 := eq_ints (isort ks) (isort ls)
  by_cases h : isort ks = isort ls
  · simp [F_Lets_eq, M_Lets_eq, cells, flatE, Vx.flatB, outP, iso_lets, meth_numbers, meth_start, fld_start, eq_ints, h, eq_opt]
  · simp [F_Lets_eq, M_Lets_eq, cells, flatE, Vx.flatB, outP, iso_lets, meth_numbers, meth_start, fld_start, e1, h]
end Ma
end
section
set_option maxRecDepth 100000
set_option maxHeartbeats 1000000
set_option exponentiation.threshold 1000
namespace Ma
open PySem PySem.Spec L2 Vx Dv Ev
open Out (guard)
theorem lc_insideL (ns : List Int) (st : Option Int) {most : Int} (hm : 0 ≤ most ∧ most < 100000) : lc1__law_lean [some (told ns st), some (.int most), none, none, none, none] = .ok (.lst ((inside ns st most).map .int)) := lc_inside ns st hm
theorem lean_body (ns : List Int) (st : Option Int) (most low high : Int) (L : Cell) : fb2__law_lean (fcells ns st most L (.sh (.int low)) (.sh (.int high))) = (if rich ns st low high = true then .rt (.bl false) (fcells ns st most L (.sh (.int low)) (.sh (.int high))) else .nx (fcells ns st most L (.sh (.int low)) (.sh (.int high)))) := by
  by_cases h : inn ns st (low + high) = true <;> by_cases h2 : inn ns st (low + high + 1) = true <;>
    simp [fb2__law_lean, fcells, Vx.flatB, flatE, law_in_ok, rich, h, h2]
end Ma
end
section
set_option maxRecDepth 100000
set_option maxHeartbeats 1000000
set_option exponentiation.threshold 1000
namespace Ma
open PySem PySem.Spec L2 Vx Dv Ev
open Out (guard)
theorem findSome_any {α : Type} {q : Int → Bool} {r : α} : ∀ ms : List Int, (ms.findSome? fun h => if q h = true then some r else none) = if ms.any q = true then some r else none
  | [] => rfl
  | m :: ms => by
    rw [List.findSome?_cons, List.any_cons]
    cases h : q m with
    | true => simp
    | false =>
      have := findSome_any (q := q) (r := r) ms
      simp only [if_false, Bool.false_eq_true, Bool.false_or]
      exact this
theorem lean_inner (ns : List Int) (st : Option Int) (most low : Int) (L c4 : Cell) (h4 : loose c4) (ms : List Int) : ∃ c, loose c ∧ forL (fun d ρ => setC ρ 4 (.sh d)) fb2__law_lean (ms.map .int) (fcells ns st most L (.sh (.int low)) c4) =
    (if ms.any (rich ns st low) = true then .rt (.bl false) (fcells ns st most L (.sh (.int low)) c) else .nx (fcells ns st most L (.sh (.int low)) c)) := by
  obtain ⟨ρ', ⟨c, hc, rfl⟩, h2⟩ := forL_find (f := fun d ρ => setC ρ 4 (.sh d)) (body := fb2__law_lean) (I := fun ρ => ∃ c, loose c ∧ ρ = fcells ns st most L (.sh (.int low)) c) (p := fun d => match d with | .int high => (if rich ns st low high = true then some (D.bl false) else none) | _ => none)
    (ds := ms.map .int) (ρ := fcells ns st most L (.sh (.int low)) c4) ⟨c4, h4, rfl⟩ (fun d hd ρ hI => by
      obtain ⟨c, hc, rfl⟩ := hI
      obtain ⟨high, _, rfl⟩ := List.mem_map.mp hd
      refine ⟨_, fcells ns st most L (.sh (.int low)) (.sh (.int high)), setC_eq (by exact hc), ⟨.sh (.int high), rfl, rfl⟩, ?_⟩
      refine Eq.trans (lean_body ns st most low high L) ?_
      by_cases q : rich ns st low high = true
      · simp only [q, if_true]
      · simp only [q, if_false, Bool.false_eq_true])
  refine ⟨c, hc, ?_⟩
  rw [h2, findSome_map (q := fun high => if rich ns st low high = true then some (D.bl false) else none) (fun n => rfl), findSome_any]
  by_cases q : ms.any (rich ns st low) = true
  · simp only [q, if_true]
  · simp only [q, if_false, Bool.false_eq_true]
theorem lean_turn (ns : List Int) (st : Option Int) (most low : Int) (ms : List Int) (b : Bool) (c4 : Cell) (h4 : loose c4) : ∃ c, loose c ∧ fb3__law_lean (fcells ns st most (if b = true then .ow (.lst (ms.map .int)) else .sh (.lst (ms.map .int))) (.sh (.int low)) c4) =
    (if ms.any (rich ns st low) = true then .rt (.bl false) (fcells ns st most (.sh (.lst (ms.map .int))) (.sh (.int low)) c) else .nx (fcells ns st most (.sh (.lst (ms.map .int))) (.sh (.int low)) c)) := by
  obtain ⟨c, hc, h⟩ := lean_inner ns st most low (.sh (.lst (ms.map .int))) c4 h4 ms
  refine ⟨c, hc, ?_⟩
  rw [← h]
  unfold fb3__law_lean
  have e : frzI [2] (fun ρ => (getV ρ 2).bind fun d => (itemsL d).bind .ok) (fcells ns st most (if b = true then .ow (.lst (ms.map .int)) else .sh (.lst (ms.map .int))) (.sh (.int low)) c4) = .ok (ms.map .int) (fcells ns st most (.sh (.lst (ms.map .int))) (.sh (.int low)) c4) := by
    cases b <;> rfl
  rw [e, Res.fin_ok]
/-- the law's own answer -/
def leanT (ns : List Int) (st : Option Int) (most : Int) : Bool := !(inside ns st most).any fun low => (inside ns st most).any (rich ns st low)
theorem law_lean_ok (ns : List Int) (st : Option Int) {most : Int} (hm : 0 ≤ most ∧ most < 100000) : F__law_lean [told ns st, .int most] = .ok (.bl (leanT ns st most)) := by
  have e0 := lc_insideL ns st hm
  obtain ⟨ρ', _, h2⟩ := forL_find (f := fun d ρ => setC ρ 3 (.sh d)) (body := fb3__law_lean) (I := fun ρ => ∃ (b : Bool) (c3 c4 : Cell), loose c3 ∧ loose c4 ∧ ρ = fcells ns st most (if b = true then .ow (.lst ((inside ns st most).map .int)) else .sh (.lst ((inside ns st most).map .int))) c3 c4)
    (p := fun d => match d with | .int low => (if (inside ns st most).any (rich ns st low) = true then some (D.bl false) else none) | _ => none)
    (ds := (inside ns st most).map .int) (ρ := fcells ns st most (.sh (.lst ((inside ns st most).map .int))) .no .no) ⟨false, .no, .no, rfl, rfl, rfl⟩ (fun d hd ρ hI => by
      obtain ⟨b, c3, c4, h3, h4, rfl⟩ := hI
      obtain ⟨low, _, rfl⟩ := List.mem_map.mp hd
      obtain ⟨c, hc, h⟩ := lean_turn ns st most low (inside ns st most) b c4 h4
      refine ⟨_, fcells ns st most (.sh (.lst ((inside ns st most).map .int))) (.sh (.int low)) c, setC_eq (by exact h3), ⟨false, .sh (.int low), c, rfl, hc, rfl⟩, ?_⟩
      refine Eq.trans h ?_
      by_cases q : (inside ns st most).any (rich ns st low) = true
      · simp only [q, if_true]
      · simp only [q, if_false, Bool.false_eq_true])
  rw [findSome_map (q := fun low => if (inside ns st most).any (rich ns st low) = true then some (D.bl false) else none) (fun n => rfl), findSome_any] at h2
  have e3 : M__law_lean (cells [told ns st, .int most] 6) = (forL (fun d ρ => setC ρ 3 (.sh d)) fb3__law_lean ((inside ns st most).map .int) (fcells ns st most (.sh (.lst ((inside ns st most).map .int))) .no .no)).then fun ρ => (flatE (fun ρ => Out.ok (D.bl true)) ρ).fin fun d ρ => .rt d ρ := by
    unfold M__law_lean
    have e4 : frzE [] (fun ρ => lc1__law_lean ρ) (cells [told ns st, .int most] 6) = .ok (.lst ((inside ns st most).map .int)) (cells [told ns st, .int most] 6) := by
      unfold frzE
      rw [show viewS (frz [] (cells [told ns st, .int most] 6)) = [some (told ns st), some (.int most), none, none, none, none] from rfl]
      simp only [e0]
      rfl
    rw [e4, Res.fin_ok, setC_eq (by rfl), orStuck_some, SRes.then_nx]
    rfl
  unfold F__law_lean
  rw [e3, h2]
  unfold leanT
  by_cases q : ((inside ns st most).any fun low => (inside ns st most).any (rich ns st low)) = true
  · simp only [q, if_true, SRes.then_rt, Bool.not_true]
    rfl
  · simp only [q, if_false, Bool.false_eq_true, SRes.then_nx]
    simp [flatE, outP, q]
/-- the program's answer is the law's, asked far enough -/
theorem lean_same {ns : List Int} {st : Option Int} (h : Told ns st) {m : Int} (h1 : ∀ n ∈ ns, n ≤ m) (h2 : ∀ s, st = some s → s ≤ m) :
    leanP (settle (keysOf st ns) st).1 (settle (keysOf st ns) st).2 = leanT ns st m := by
  cases st with
  | some s =>
    show false = _
    have hs := h.sta s rfl
    have hm : s ∈ inside ns (some s) m := mem_inside.mpr ⟨⟨hs.1, by have := h2 s rfl; omega⟩, by rw [inn_iff]; exact .inr ⟨s, rfl, Int.le_refl _⟩⟩
    have e : ((inside ns (some s) m).any fun low => (inside ns (some s) m).any (rich ns (some s) low)) = true := by
      rw [List.any_eq_true]
      refine ⟨s, hm, ?_⟩
      rw [List.any_eq_true]
      refine ⟨s, hm, ?_⟩
      unfold rich
      rw [Bool.or_eq_true]
      left
      rw [inn_iff]
      exact .inr ⟨s, rfl, by omega⟩
    unfold leanT
    rw [e]; rfl
  | none =>
    show decide ((isort (keysOf none ns)).filter (richAny (keysOf none ns) none) = []) = _
    have mk : ∀ n, n ∈ isort (keysOf none ns) ↔ n ∈ inside ns none m := fun n => by
      rw [(isort_perm _).mem_iff, mem_keysOf, mem_inside, inn_iff]
      constructor
      · rintro ⟨a, _⟩
        exact ⟨⟨(h.num n a).1, by have := h1 n a; omega⟩, .inl a⟩
      · rintro ⟨_, a | ⟨s, z, _⟩⟩
        · exact ⟨a, rfl⟩
        · cases z
    have rc : ∀ a b, rich (keysOf none ns) none a b = rich ns none a b := fun a b => by
      have := inn_settle ns none
      unfold rich
      rw [← this (a + b), ← this (a + b + 1)]
      rfl
    unfold leanT
    rw [Bool.eq_iff_iff, decide_eq_true_eq, List.filter_eq_nil_iff, Bool.not_eq_true', List.any_eq_false]
    have ra : ∀ low, richAny (keysOf none ns) none low = (inside ns none m).any (rich ns none low) := fun low => by
      unfold richAny
      rw [Bool.eq_iff_iff, Bool.not_eq_true', decide_eq_false_iff_not, List.filter_eq_nil_iff, List.any_eq_true]
      constructor
      · intro z
        refine Classical.byContradiction fun c => z fun b hb r => c ⟨b, (mk b).mp hb, by rw [← rc]; exact r⟩
      · rintro ⟨b, hb, r⟩ z
        exact z b ((mk b).mpr hb) (by rw [rc]; exact r)
    constructor
    · intro z low hl
      have := z low ((mk low).mpr hl)
      rw [ra] at this
      exact this
    · intro z low hl
      have := z low ((mk low).mp hl)
      rw [ra]
      exact this
end Ma
end
section
set_option maxRecDepth 100000
set_option maxHeartbeats 1000000
set_option exponentiation.threshold 1000
namespace Ma
open PySem PySem.Spec L2 Vx Dv Ev
open Out (guard)
/-! ### lists of truth values, and the law's closing -/
def bls (h : List Bool) : D := .lst (h.map .bl)
def getB (h : List Bool) (i : Int) : Bool := h.getD i.toNat false
theorem ix_bls {h : List Bool} {i : Int} (h0 : 0 ≤ i) (h1 : i < h.length) : ixD (bls h) (.int i) = .ok (.bl (getB h i)) := by
  have hl : i.toNat < h.length := by omega
  show Out.ofOpt (atI (h.map D.bl) i) = _
  unfold atI ixN
  rw [if_pos h0, List.length_map, if_pos h1]
  show Out.ofOpt ((h.map D.bl)[i.toNat]?) = _
  rw [List.getElem?_map, List.getElem?_eq_getElem hl]
  unfold getB
  rw [List.getD_eq_getElem?_getD, List.getElem?_eq_getElem hl]
  rfl
theorem pys_bls : ∀ h : List Bool, pys (h.map .bl) = h.map PyData.bool
  | [] => rfl
  | n :: ns => by rw [List.map_cons, List.map_cons, ← pys_bls ns]; rfl
theorem lay_bls : ∀ h : List Bool, PyData.canLayAll0 (h.map PyData.bool) = true
  | [] => by simp [PyData.canLayAll0]
  | b :: h => by simp [PyData.canLayAll0, PyData.canLay0, lay_bls h]
theorem dep_bls : ∀ h : List Bool, PyData.depthAll (h.map PyData.bool) ≤ 1
  | [] => by simp [PyData.depthAll]
  | b :: h => by
    have := dep_bls h
    simp [PyData.depthAll, PyData.depth]
    omega
theorem sh_bls (h : List Bool) : SeqAt.shaped (py (bls h)) = true := by
  show SeqAt.shaped (.list (pys (h.map .bl))) = true
  rw [pys_bls]
  have h1 := dep_bls h
  have h2 : PyData.depth (.list (h.map PyData.bool)) ≤ 64 := by simp only [PyData.depth]; omega
  show (PyData.canLay0 (.list (h.map PyData.bool)) && decide (PyData.depth (.list (h.map PyData.bool)) ≤ 64)) = true
  rw [Bool.and_eq_true]
  exact ⟨by simp only [PyData.canLay0]; exact lay_bls h, decide_eq_true h2⟩
theorem eqv_bls : ∀ xs ys : List Bool, PyData.eqvAll (pys (xs.map .bl)) (pys (ys.map .bl)) = decide (xs = ys)
  | [], [] => rfl
  | [], _ :: _ => rfl
  | _ :: _, [] => rfl
  | x :: xs, y :: ys => by
    show (PyData.eqv (.bool x) (.bool y) && PyData.eqvAll (pys (xs.map .bl)) (pys (ys.map .bl))) = _
    rw [eqv_bls xs ys]
    have : PyData.eqv (.bool x) (.bool y) = decide (x = y) := by cases x <;> cases y <;> rfl
    rw [this]
    by_cases h : x = y <;> by_cases h2 : xs = ys <;> simp [h, h2]
theorem eq_bls (xs ys : List Bool) : eqD (bls xs) (bls ys) = .ok (.bl (decide (xs = ys))) := by
  unfold eqD
  rw [Out.guard_of (by rw [sh_bls, sh_bls]; rfl)]
  show Out.ok (D.bl (PyData.eqvAll (pys (xs.map .bl)) (pys (ys.map .bl)))) = _
  rw [eqv_bls]
def putB (h : List Bool) (i : Int) : List Bool := h.set i.toNat true
def stepC (low high : Int) (h : List Bool) : List Bool := if (getB h low && (getB h high && (getB h (low + high) != getB h (low + high + 1)))) = true then putB (putB h (low + high)) (low + high + 1) else h
def rowC (m low : Int) (h : List Bool) : List Bool := (rng low (m - low + 1)).foldl (fun h high => stepC low high h) h
def passC (m : Int) (h : List Bool) : List Bool := (rng 1 m).foldl (fun h low => rowC m low h) h
def runC (m : Int) : Nat → List Bool → List Bool
  | 0, h => h
  | n + 1, h => if passC m h = h then passC m h else runC m n (passC m h)
theorem len_step (low high : Int) (h : List Bool) : (stepC low high h).length = h.length := by
  unfold stepC putB
  split
  · rw [List.length_set, List.length_set]
  · rfl
theorem len_fold {f : List Bool → Int → List Bool} (hf : ∀ h n, (f h n).length = h.length) : ∀ (ns : List Int) (h : List Bool), (ns.foldl f h).length = h.length
  | [], h => rfl
  | n :: ns, h => by rw [List.foldl_cons, len_fold hf ns, hf]
theorem len_row (m low : Int) (h : List Bool) : (rowC m low h).length = h.length := len_fold (fun h n => len_step low n h) _ h
theorem len_pass (m : Int) (h : List Bool) : (passC m h).length = h.length := len_fold (fun h n => len_row m n h) _ h
def stepI {α : Type} (g : α → Int → α) (a : α) (d : D) : α := match d with
  | .int n => g a n
  | _ => a
theorem foldl_stepI {α : Type} (g : α → Int → α) : ∀ (ns : List Int) (a : α), (ns.map D.int).foldl (stepI g) a = ns.foldl g a
  | [], a => rfl
  | n :: ns, a => by
    rw [List.map_cons, List.foldl_cons, List.foldl_cons]
    exact foldl_stepI g ns (g a n)
def ccells (T : D) (m : Int) (h : List Bool) (c3 c4 c5 c6 : Cell) : Vx.Env := [.sh T, .sh (.int m), .ow (bls h), c3, c4, c5, c6, .no]
theorem setX_ccells {T : D} {m : Int} {h : List Bool} {c3 c4 c5 c6 : Cell} {i : Int} {m2 : PEnv → Out D} (hm : m2 (viewA (ccells T m h c3 c4 c5 c6)) = .ok (.int i)) (h0 : 0 ≤ i) (h1 : i < h.length) :
    setX 2 m2 (.bl true) (ccells T m h c3 c4 c5 c6) = some (ccells T m (putB h i) c3 c4 c5 c6) := by
  unfold setX
  rw [hm]
  show ((ixN (h.map D.bl).length i).bind fun n => some (mutC (ccells T m h c3 c4 c5 c6) 2 (.lst ((h.map D.bl).set n (.bl true))))) = _
  unfold ixN
  rw [if_pos h0, List.length_map, if_pos h1, Option.bind_some]
  show some (ccells T m h c3 c4 c5 c6 |>.set 2 (.ow (.lst ((h.map D.bl).set i.toNat (.bl true))))) = _
  unfold putB
  rw [← List.map_set]
  rfl
theorem closed_body {T : D} {m low high : Int} {h : List Bool} {c3 c4 : Cell} (h0 : 0 ≤ low) (h1 : 0 ≤ high) (h2 : low + high + 1 < h.length) :
    fb2__law_closed (ccells T m h c3 c4 (.sh (.int low)) (.sh (.int high))) = .nx (ccells T m (stepC low high h) c3 c4 (.sh (.int low)) (.sh (.int high))) := by
  have sz2 : (2 : Nat) ≤ sizeLine := Nat.le_trans (by decide) szl
  have e1 := ix_bls (h := h) (i := low) h0 (by omega)
  have e2 := ix_bls (h := h) (i := high) h1 (by omega)
  have e3 := ix_bls (h := h) (i := low + high) (by omega) (by omega)
  have e4 := ix_bls (h := h) (i := low + high + 1) (by omega) (by omega)
  have ef : Vx.flatB (fun ρ => (((getV ρ 2).bind fun d => (getV ρ 5).bind fun e => ixD d e).bind toB).bind fun c => if c = true then ((((getV ρ 2).bind fun d => (getV ρ 6).bind fun e => ixD d e).bind toB).bind fun c => if c = true then ((((getV ρ 2).bind fun d => ((getV ρ 5).bind fun d => (getV ρ 6).bind fun e => addD d e).bind fun e => ixD d e).bind fun d => ((getV ρ 2).bind fun d => (((getV ρ 5).bind fun d => (getV ρ 6).bind fun e => addD d e).bind fun d => (Out.ok (D.int 1)).bind fun e => addD d e).bind fun e => ixD d e).bind fun e => neD d e).bind toB) else .ok false) else .ok false) (ccells T m h c3 c4 (.sh (.int low)) (.sh (.int high))) = .ok (getB h low && (getB h high && (getB h (low + high) != getB h (low + high + 1)))) (ccells T m h c3 c4 (.sh (.int low)) (.sh (.int high))) := by
    refine flatB_ok ?_
    simp only [ccells, viewA_cons, viewA_nil, getV_succ, getV_cons0, all_sh, all_ow, Out.bind_ok, e1, e2, e3, e4, add_ok, toB_bl, ne_bl]
    cases getB h low <;> cases getB h high <;> cases getB h (low + high) <;> cases getB h (low + high + 1) <;> rfl
  unfold fb2__law_closed
  rw [ef, Res.fin_ok]
  unfold stepC
  by_cases q : (getB h low && (getB h high && (getB h (low + high) != getB h (low + high + 1)))) = true
  · rw [if_pos q, if_pos q]
    have eg : frzE [] (fun ρ => ((Out.ok (D.bl true)).bind fun d => ((Out.ok (D.bl true)).bind fun d => (Out.ok []).bind fun ds => .ok (d :: ds)).bind fun ds => .ok (d :: ds)).bind fun ds => guard (decide (ds.length ≤ sizeLine)) (.ok (.tup ds))) (ccells T m h c3 c4 (.sh (.int low)) (.sh (.int high))) = .ok (.tup [.bl true, .bl true]) (ccells T m h c3 c4 (.sh (.int low)) (.sh (.int high))) := by
      simp [frzE, frz, sz2]
    rw [eg, Res.fin_ok]
    simp only [List.length_cons, List.length_nil, if_true]
    rw [setX_ccells (i := low + high) (by simp [ccells]) (by omega) (by omega), Option.bind_some]
    rw [setX_ccells (i := low + high + 1) (by simp [ccells]) (by omega) (by unfold putB; rw [List.length_set]; omega), Option.bind_some]
    rfl
  · rw [if_neg q, if_neg q]
theorem closed_row {T : D} {m low : Int} {h : List Bool} {c3 c4 c6 : Cell} (h6 : loose c6) (h0 : 0 ≤ low ∧ low ≤ m) (hm : 0 ≤ m ∧ m < 1000) (hl : m + 2 = h.length) :
    ∃ c, loose c ∧ fb3__law_closed (ccells T m h c3 c4 (.sh (.int low)) c6) = .nx (ccells T m (rowC m low h) c3 c4 (.sh (.int low)) c) := by
  obtain ⟨ρ', h1, hl', c, hc, h2⟩ := forL_rel (f := fun d ρ => setC ρ 6 (.sh d)) (body := fb2__law_closed) (R := fun (k : List Bool) ρ => m + 2 = k.length ∧ ∃ c, loose c ∧ ρ = ccells T m k c3 c4 (.sh (.int low)) c) (step := stepI fun k high => stepC low high k) (ds := (rng low (m - low + 1)).map .int) (s := h) ⟨hl, c6, h6, rfl⟩ (fun d hd k ρ hI => by
    obtain ⟨hk, c, hc, rfl⟩ := hI
    obtain ⟨high, hh, rfl⟩ := List.mem_map.mp hd
    have := mem_rng.mp hh
    exact ⟨ccells T m k c3 c4 (.sh (.int low)) (.sh (.int high)), _, setC_eq (by exact hc), closed_body (by omega) (by omega) (by omega), (by show m + 2 = ((stepC low high k).length : Int); rw [len_step]; exact hk), .sh (.int high), rfl, rfl⟩)
  refine ⟨c, hc, ?_⟩
  rw [foldl_stepI] at h2
  unfold fb3__law_closed
  have e : flatI (fun ρ => ((getV ρ 5).bind fun d => ((((getV ρ 1).bind fun d => (getV ρ 5).bind fun e => subD d e).bind fun d => (Out.ok (D.int 1)).bind fun e => addD d e).bind fun d => (Out.ok []).bind fun ds => .ok (d :: ds)).bind fun ds => .ok (d :: ds)).bind rng2) (ccells T m h c3 c4 (.sh (.int low)) c6) = .ok ((rng low (m - low + 1)).map .int) (ccells T m h c3 c4 (.sh (.int low)) c6) := by
    have er : rng2 [.int low, .int (m - low + 1)] = .ok ((rng low (m - low + 1)).map .int) := rng_ok (by omega)
    simp [flatI, ccells, er]
  rw [e, Res.fin_ok, h1, h2]
  rfl
end Ma
end
section
set_option maxRecDepth 100000
set_option maxHeartbeats 1000000
set_option exponentiation.threshold 1000
namespace Ma
open PySem PySem.Spec L2 Vx Dv Ev
open Out (guard)
/-! ### what repr tells, and equal things -/
theorem strOk_of (s : String) : PyData.strOk (Str.ofString s) = true := by
  unfold PyData.strOk
  rw [Str.ofString_eq_toList, Array.all_eq_true_iff_forall_mem]
  intro c hc
  rw [List.mem_toArray] at hc
  obtain ⟨x, _, rfl⟩ := List.mem_map.mp hc
  have := x.valid
  rw [decide_eq_true_eq]
  rcases this with h | ⟨_, h⟩
  · exact Nat.lt_trans h (by decide)
  · exact h
theorem strOk_app (a b : Str) : PyData.strOk (a ++ b) = (PyData.strOk a && PyData.strOk b) := by
  show (a.cps ++ b.cps).all (fun x => decide (x < 0x110000)) = _
  rw [Array.all_append]
  rfl
theorem sh_str {s : Str} (h : PyData.strOk s = true) : SeqAt.shaped (py (.str s)) = true := by
  show SeqAt.shaped (.str s) = true
  show (PyData.canLay0 (.str s) && decide (PyData.depth (.str s) ≤ 64)) = true
  simp only [PyData.canLay0, PyData.depth, h]
  rfl
theorem ne_str {s t : Str} (h : PyData.strOk s = true) (h2 : PyData.strOk t = true) : neD (.str s) (.str t) = .ok (.bl (!(s == t))) := by
  unfold neD
  rw [Out.guard_of (by rw [sh_str h, sh_str h2]; rfl)]
  rfl
theorem bool_shown (b : Bool) : (py (.bl b)).shown = (if b = true then Str.ofString "True" else Str.ofString "False") := by
  cases b <;> rfl
theorem repr_bl (b : Bool) : reprD (.bl b) = .ok (.str (py (.bl b)).shown) := by
  unfold reprD
  refine Out.guard_of ?_
  have e1 : (py (.bl b)).showable = true := rfl
  have e2 : (py (.bl b)).hasDict = false := rfl
  have e3 : (py (.bl b)).depth ≤ 64 := Nat.zero_le _
  have e4 : (py (.bl b)).shown.length ≤ sizeLine := Nat.le_trans (by cases b <;> decide +kernel) szl
  rw [e1, e2, decide_eq_true e3, decide_eq_true e4]; rfl
theorem repr_non : reprD .non = .ok (.str (py .non).shown) := by
  unfold reprD
  refine Out.guard_of ?_
  have e4 : (py .non).shown.length ≤ sizeLine := Nat.le_trans (by decide +kernel) szl
  rw [decide_eq_true e4]; rfl
theorem int_len {n : Int} (h : -(10 ^ 9) < n ∧ n < 10 ^ 9) : (Str.ofString (toString n)).length ≤ 10 := by
  have h1 := int_text_length_le10 (a := n) (k := 9) (by decide) (by omega)
  rw [ofString_length]
  omega
theorem shown_int (n : Int) : PyData.shown (.int n) = Str.ofString (toString n) := by unfold PyData.shown; rfl
theorem str_len (a b : Str) : (a ++ b).length = a.length + b.length := by
  show (a.cps ++ b.cps).size = _
  rw [Array.size_append]; rfl
theorem shown_pair (p : Int × Int) : (py (pairD p)).shown = ("(" : Str) ++ (Str.ofString (toString p.1) ++ ", " ++ Str.ofString (toString p.2)) ++ ")" := by
  have e : py (pairD p) = .tuple [.int p.1, .int p.2] := rfl
  rw [e]
  simp only [PyData.shown, PyData.shownAll]
  rfl
theorem log_small {n : Int} (h : -(10 ^ 9) < n ∧ n < 10 ^ 9) : n.natAbs.log2 < 1920 := by
  have := log2_small (n := n.natAbs) (k := 40) (by omega) (by decide)
  omega
theorem repr_pair {p : Int × Int} (h1 : -(10 ^ 9) < p.1 ∧ p.1 < 10 ^ 9) (h2 : -(10 ^ 9) < p.2 ∧ p.2 < 10 ^ 9) : reprD (pairD p) = .ok (.str (py (pairD p)).shown) ∧ PyData.strOk (py (pairD p)).shown = true := by
  have l1 := int_len h1
  have l2 := int_len h2
  constructor
  · unfold reprD
    refine Out.guard_of ?_
    have e : py (pairD p) = .tuple [.int p.1, .int p.2] := rfl
    have e1 : (py (pairD p)).showable = true := by
      rw [e]
      simp only [PyData.showable, PyData.showableAll, decide_eq_true (log_small h1), decide_eq_true (log_small h2)]
      rfl
    have e2 : (py (pairD p)).hasDict = false := by rw [e]; simp only [PyData.hasDict, PyData.hasDictAll]; rfl
    have e3 : (py (pairD p)).depth ≤ 64 := by rw [e]; simp only [PyData.depth, PyData.depthAll]; omega
    have e4 : (py (pairD p)).shown.length ≤ sizeLine := by
      rw [shown_pair, str_len, str_len, str_len, str_len]
      have a : ("(" : Str).length = 1 := rfl
      have b : (", " : Str).length = 2 := rfl
      have c : (")" : Str).length = 1 := rfl
      have := szl
      omega
    rw [e1, e2, decide_eq_true e3, decide_eq_true e4]; rfl
  · rw [shown_pair, strOk_app, strOk_app, strOk_app, strOk_app]
    simp only [strOk_of]
    rfl
theorem repr_int {n : Int} (h : -(10 ^ 9) < n ∧ n < 10 ^ 9) : reprD (.int n) = .ok (.str (py (.int n)).shown) ∧ PyData.strOk (py (.int n)).shown = true := by
  have l := int_len h
  have e : py (.int n) = .int n := rfl
  constructor
  · unfold reprD
    refine Out.guard_of ?_
    have e1 : (py (.int n)).showable = true := by
      rw [e]
      simp only [PyData.showable, decide_eq_true (log_small h)]
    have e2 : (py (.int n)).hasDict = false := by rw [e]; simp only [PyData.hasDict]
    have e3 : (py (.int n)).depth ≤ 64 := by rw [e]; simp only [PyData.depth]; omega
    have e4 : (py (.int n)).shown.length ≤ sizeLine := by
      rw [e, shown_int]
      have := szl
      omega
    rw [e1, e2, decide_eq_true e3, decide_eq_true e4]; rfl
  · rw [e, shown_int]; exact strOk_of _
/-- what repr makes of equal things is not unlike -/
theorem rep_ne {d : D} {s : Str} (h : PyData.strOk s = true) : neD (.str s) (.str s) = .ok (.bl false) := by
  rw [ne_str h h]
  simp
theorem repD_bl (b : Bool) : ∃ s, reprD (.bl b) = .ok (.str s) ∧ neD (.str s) (.str s) = .ok (.bl false) := ⟨_, repr_bl b, rep_ne (d := .non) (by rw [bool_shown]; cases b <;> exact strOk_of _)⟩
def SmallP : Option (Int × Int) → Prop
  | none => True
  | some p => (-(10 ^ 9) < p.1 ∧ p.1 < 10 ^ 9) ∧ (-(10 ^ 9) < p.2 ∧ p.2 < 10 ^ 9)
theorem repD_opt {f : Option (Int × Int)} (h : SmallP f) : ∃ s, reprD (optP f) = .ok (.str s) ∧ neD (.str s) (.str s) = .ok (.bl false) := by
  cases f with
  | none => exact ⟨_, repr_non, rep_ne (d := .non) (strOk_of "None")⟩
  | some p =>
    obtain ⟨a, b⟩ := repr_pair h.1 h.2
    exact ⟨_, a, rep_ne (d := .non) b⟩
theorem repD_int {n : Int} (h : -(10 ^ 9) < n ∧ n < 10 ^ 9) : ∃ s, reprD (.int n) = .ok (.str s) ∧ neD (.str s) (.str s) = .ok (.bl false) := ⟨_, (repr_int h).1, rep_ne (d := .non) (repr_int h).2⟩
theorem sh_pair (p : Int × Int) : SeqAt.shaped (py (pairD p)) = true := by
  show (PyData.canLay0 (.tuple [.int p.1, .int p.2]) && decide (PyData.depth (.tuple [.int p.1, .int p.2]) ≤ 64)) = true
  simp only [PyData.canLay0, PyData.canLayAll0, PyData.depth, PyData.depthAll]
  rfl
theorem eqv_pair (p q : Int × Int) : PyData.eqv (py (pairD p)) (py (pairD q)) = decide (p = q) := by
  show (p.1 == q.1 && (p.2 == q.2 && true)) = _
  obtain ⟨a, b⟩ := p
  obtain ⟨c, d⟩ := q
  by_cases h : a = c <;> by_cases h2 : b = d <;> simp [h, h2]
theorem sh_optP (f : Option (Int × Int)) : SeqAt.shaped (py (optP f)) = true := by
  cases f with
  | none => exact sh_non
  | some p => exact sh_pair p
theorem eqv_opt (f g : Option (Int × Int)) : PyData.eqv (py (optP f)) (py (optP g)) = decide (f = g) := by
  cases f with
  | none => cases g <;> rfl
  | some p =>
    cases g with
    | none => rfl
    | some q =>
      refine Eq.trans (eqv_pair p q) ?_
      by_cases h : p = q <;> simp [h]
theorem eq_optP (f g : Option (Int × Int)) : eqD (optP f) (optP g) = .ok (.bl (decide (f = g))) := by
  unfold eqD
  rw [Out.guard_of (by rw [sh_optP, sh_optP]; rfl), eqv_opt]
theorem ne_optP (f g : Option (Int × Int)) : neD (optP f) (optP g) = .ok (.bl (!decide (f = g))) := by
  unfold neD
  rw [Out.guard_of (by rw [sh_optP, sh_optP]; rfl), eqv_opt]
theorem ne_holds (f : Option (Int × Int)) : neD (holdsT f) (holdsT f) = .ok (.bl false) := by
  cases f with
  | none => exact ne_optP none none
  | some p => exact (ne_int _ _).trans (by simp)
end Ma
end
section
set_option maxRecDepth 100000
set_option maxHeartbeats 1000000
set_option exponentiation.threshold 1000
namespace Ma
open PySem PySem.Spec L2 Vx Dv Ev
open Out (guard)
theorem flat_bls (h : List Bool) : flatD (bls h) = true := by
  show (h.map D.bl).all scalar = true
  rw [List.all_eq_true]
  intro d hd
  obtain ⟨b, _, rfl⟩ := List.mem_map.mp hd
  rfl
theorem closed_rows {T : D} {m : Int} {h : List Bool} {c3 c4 c5 c6 : Cell} (h5 : loose c5) (h6 : loose c6) (hm : 0 ≤ m ∧ m < 1000) (hl : m + 2 = h.length) :
    ∃ c c', loose c ∧ loose c' ∧ forL (fun d ρ => setC ρ 5 (.sh d)) fb3__law_closed ((rng 1 m).map .int) (ccells T m h c3 c4 c5 c6) = .nx (ccells T m (passC m h) c3 c4 c c') := by
  obtain ⟨ρ', h1, hl', c, c', hc, hc', h2⟩ := forL_rel (f := fun d ρ => setC ρ 5 (.sh d)) (body := fb3__law_closed) (R := fun (k : List Bool) ρ => m + 2 = k.length ∧ ∃ c c', loose c ∧ loose c' ∧ ρ = ccells T m k c3 c4 c c') (step := stepI fun k low => rowC m low k) (ds := (rng 1 m).map .int) (s := h) ⟨hl, c5, c6, h5, h6, rfl⟩ (fun d hd k ρ hI => by
    obtain ⟨hk, c, c', hc, hc', rfl⟩ := hI
    obtain ⟨low, hh, rfl⟩ := List.mem_map.mp hd
    have := mem_rng.mp hh
    obtain ⟨c2, hc2, e⟩ := closed_row (T := T) (m := m) (low := low) (h := k) (c3 := c3) (c4 := c4) hc' (by omega) hm hk
    exact ⟨ccells T m k c3 c4 (.sh (.int low)) c', _, setC_eq (by exact hc), e, (by show m + 2 = ((rowC m low k).length : Int); rw [len_row]; exact hk), .sh (.int low), c2, rfl, hc2, rfl⟩)
  refine ⟨c, c', hc, hc', ?_⟩
  rw [foldl_stepI] at h2
  rw [h1, h2]
  rfl
theorem closed_turn {T : D} {m : Int} {h : List Bool} {c3 c4 c5 c6 : Cell} (h4 : loose c4) (h5 : loose c5) (h6 : loose c6) (hm : 0 ≤ m ∧ m < 1000) (hl : m + 2 = h.length) :
    ∃ c c', loose c ∧ loose c' ∧ fb4__law_closed (ccells T m h c3 c4 c5 c6) = (if passC m h = h then .rt (bls (passC m h)) ((ccells T m (passC m h) c3 (.ow (bls h)) c c').set 2 .no) else .nx (ccells T m (passC m h) c3 (.ow (bls h)) c c')) := by
  obtain ⟨c, c', hc, hc', e⟩ := closed_rows (T := T) (m := m) (h := h) (c3 := c3) (c4 := .ow (bls h)) h5 h6 hm hl
  refine ⟨c, c', hc, hc', ?_⟩
  have e1 : flatN (fun ρ => ((getV ρ 2).bind fun d => (Out.ok []).bind fun ds => .ok (d :: ds)).bind (one1 fun d => (seqD d).bind fun ds => .ok (.lst ds))) (ccells T m h c3 c4 c5 c6) = .ok (bls h) (ccells T m h c3 c4 c5 c6) := by
    show (if flatD (bls h) = true then Res.ok (bls h) (ccells T m h c3 c4 c5 c6) else .stuck) = _
    rw [if_pos (flat_bls h)]
  have er : rng2 [.int 1, .int m] = .ok ((rng 1 m).map .int) := rng_ok (by omega)
  have e2 : flatI (fun ρ => ((Out.ok (D.int 1)).bind fun d => ((getV ρ 1).bind fun d => (Out.ok []).bind fun ds => .ok (d :: ds)).bind fun ds => .ok (d :: ds)).bind rng2) (ccells T m h c3 (.ow (bls h)) c5 c6) = .ok ((rng 1 m).map .int) (ccells T m h c3 (.ow (bls h)) c5 c6) := by
    simp [flatI, ccells, er]
  have e3 : Vx.flatB (fun ρ => ((getV ρ 2).bind fun d => (getV ρ 4).bind fun e => eqD d e).bind toB) (ccells T m (passC m h) c3 (.ow (bls h)) c c') = .ok (decide (passC m h = h)) (ccells T m (passC m h) c3 (.ow (bls h)) c c') := by
    refine flatB_ok ?_
    have := eq_bls (passC m h) h
    simp [ccells, this]
  unfold fb4__law_closed
  rw [e1, Res.fin_ok, setC_eq (by exact h4), orStuck_some, SRes.then_nx, show (ccells T m h c3 c4 c5 c6).set 4 (.ow (bls h)) = ccells T m h c3 (.ow (bls h)) c5 c6 from rfl, e2, Res.fin_ok, e, SRes.then_nx, e3, Res.fin_ok]
  by_cases q : passC m h = h
  · rw [if_pos (decide_eq_true q), if_pos q]
    rfl
  · rw [if_neg (by rw [decide_eq_true_eq]; exact q), if_neg q]
theorem closed_loop {T : D} {m : Int} (hm : 0 ≤ m ∧ m < 1000) : ∀ (ds : List D) {h : List Bool} {c3 c4 c5 c6 : Cell}, loose c3 → loose c4 → loose c5 → loose c6 → m + 2 = h.length →
    ∃ ρ', (forL (fun d ρ => setC ρ 3 (.sh d)) fb4__law_closed ds (ccells T m h c3 c4 c5 c6)).then (fun ρ => retC 2 ρ) = .rt (bls (runC m ds.length h)) ρ'
  | [], h, c3, c4, c5, c6, _, _, _, _, _ => ⟨(ccells T m h c3 c4 c5 c6).set 2 .no, rfl⟩
  | d :: ds, h, c3, c4, c5, c6, h3, h4, h5, h6, hl => by
    obtain ⟨c, c', hc, hc', e⟩ := closed_turn (T := T) (c3 := .sh d) h4 h5 h6 hm hl
    unfold forL
    rw [setC_eq (by exact h3), orStuck_some, show (ccells T m h c3 c4 c5 c6).set 3 (.sh d) = ccells T m h (.sh d) c4 c5 c6 from rfl, e]
    show ∃ ρ', _ = SRes.rt (bls (if passC m h = h then passC m h else runC m ds.length (passC m h))) ρ'
    by_cases q : passC m h = h
    · rw [if_pos q, if_pos q]
      exact ⟨_, rfl⟩
    · rw [if_neg q, if_neg q]
      exact closed_loop hm ds (by rfl) (by rfl) hc hc' (by rw [len_pass]; exact hl)
theorem rng1_ok {j : Int} (h : -(2 ^ 62) ≤ j ∧ j < 2 ^ 62) : rng1 [.int j] = .ok ((rng 0 j).map .int) := by
  show guard (decide (-(2 ^ 62) ≤ j ∧ j < 2 ^ 62)) (.ok (rangeD 0 j.toNat)) = _
  rw [Out.guard_of (decide_eq_true h)]
  unfold rng rangeD
  rw [List.map_map, Int.sub_zero]
  rfl
def startC (ns : List Int) (st : Option Int) (m : Int) : List Bool := (rng 0 (m + 2)).map (inn ns st)
theorem closed_list (ns : List Int) (st : Option Int) {m : Int} (hm : 0 ≤ m ∧ m < 1000) : lc1__law_closed [some (told ns st), some (.int m), none, none, none, none, none, none] = .ok (bls (startC ns st m)) := by
  have er : rng1 [.int (m + 2)] = .ok ((rng 0 (m + 2)).map .int) := rng1_ok (by omega)
  have e := lcP_ok (mi := fun ρ => (((getV ρ 1).bind fun d => (Out.ok (D.int 2)).bind fun e => addD d e).bind fun d => (Out.ok []).bind fun ds => .ok (d :: ds)).bind rng1) (fg := fun (d : D) (ρ : PEnv) => Out.ok (ρ.set 7 (some d))) (mt := fun ρ => .ok true) (me := fun ρ => ((getV ρ 0).bind fun d => ((getV ρ 7).bind fun d => (Out.ok []).bind fun ds => .ok (d :: ds)).bind fun ds => .ok (d :: ds)).bind fun ds => guard (decide (ds.length = 2)) (F__law_in ds)) (vs := [7]) (ρ := [some (told ns st), some (.int m), none, none, none, none, none, none]) (ds := (rng 0 (m + 2)).map .int) (g := fun d => match d with | .int n => some (.bl (inn ns st n)) | _ => none) (by simp [er]) (by rw [List.length_map, len_rng]; exact Nat.le_trans (by omega) szl) (fun d hd => by
    obtain ⟨n, _, rfl⟩ := List.mem_map.mp hd
    simp [compF, wipeV, law_in_ok])
  refine Eq.trans e ?_
  unfold bls startC
  congr 2
  generalize rng 0 (m + 2) = l
  induction l with
  | nil => rfl
  | cons n l ih => rw [List.map_cons, List.filterMap_cons]; simp only []; rw [ih]; rfl
theorem law_closed_ok (ns : List Int) (st : Option Int) {m : Int} (hm : 0 ≤ m ∧ m < 1000) : F__law_closed [told ns st, .int m] = .ok (bls (runC m m.toNat (startC ns st m))) := by
  have e0 := closed_list ns st hm
  have er : rng1 [.int m] = .ok ((rng 0 m).map .int) := rng1_ok (by omega)
  have hlen : m + 2 = (startC ns st m).length := by unfold startC; rw [List.length_map, len_rng]; omega
  obtain ⟨ρ', h⟩ := closed_loop (T := told ns st) hm ((rng 0 m).map .int) (h := startC ns st m) (c3 := .no) (c4 := .no) (c5 := .no) (c6 := .no) rfl rfl rfl rfl hlen
  rw [List.length_map, len_rng, Int.sub_zero] at h
  unfold F__law_closed M__law_closed
  have e1 : frzE [] (fun ρ => lc1__law_closed ρ) (cells [told ns st, .int m] 8) = .ok (bls (startC ns st m)) (cells [told ns st, .int m] 8) := by
    unfold frzE
    rw [show viewS (frz [] (cells [told ns st, .int m] 8)) = [some (told ns st), some (.int m), none, none, none, none, none, none] from rfl]
    simp only [e0]
    rfl
  have e2 : flatI (fun ρ => ((getV ρ 1).bind fun d => (Out.ok []).bind fun ds => .ok (d :: ds)).bind rng1) (ccells (told ns st) m (startC ns st m) .no .no .no .no) = .ok ((rng 0 m).map .int) (ccells (told ns st) m (startC ns st m) .no .no .no .no) := by
    simp [flatI, ccells, er]
  rw [e1, Res.fin_ok, setC_eq (by rfl), orStuck_some, SRes.then_nx, show (cells [told ns st, .int m] 8).set 2 (.ow (bls (startC ns st m))) = ccells (told ns st) m (startC ns st m) .no .no .no .no from rfl, e2, Res.fin_ok, h]
  rfl
end Ma
end
section
set_option maxRecDepth 100000
set_option maxHeartbeats 1000000
set_option exponentiation.threshold 1000
namespace Ma
open PySem PySem.Spec L2 Vx Dv Ev
open Out (guard)
def subs : List Int → List (List Int)
  | [] => [[]]
  | a :: l => subs l ++ (subs l).map (a :: ·)
theorem mem_subs {ms l : List Int} (h : ms.Sublist l) : ms ∈ subs l := by
  induction h with
  | slnil => exact List.mem_singleton.mpr rfl
  | cons a _ ih => exact List.mem_append_left _ ih
  | cons_cons a _ ih => exact List.mem_append_right _ (List.mem_map.mpr ⟨_, ih, rfl⟩)
def okC (h : List Bool) : Bool := !getB h 20 || getB h 21
@[irreducible] def clo (ns : List Int) (st : Option Int) : List Bool := runC 24 24 (startC ns st 24)
def chkC (st : Option Int) : Bool := (subs [1, 2, 3, 4, 5]).all fun ns => okC (clo ns st)
theorem chk_none : chkC none = true := by decide +kernel
theorem getB_set {h : List Bool} {i j : Int} (q : getB h i = true) : getB (putB h j) i = true := by
  unfold getB putB at *
  rw [List.getD_eq_getElem?_getD] at *
  rw [List.getElem?_set]
  split
  · split
    · rfl
    · rename_i a b
      rw [← a] at q
      rw [List.getElem?_eq_none (by omega)] at q
      cases q
  · exact q
theorem step_keep {h : List Bool} {i low high : Int} (q : getB h i = true) : getB (stepC low high h) i = true := by
  unfold stepC
  split
  · exact getB_set (getB_set q)
  · exact q
theorem fold_keep {f : List Bool → Int → List Bool} {i : Int} (hf : ∀ h n, getB h i = true → getB (f h n) i = true) : ∀ (ns : List Int) {h : List Bool}, getB h i = true → getB (ns.foldl f h) i = true
  | [], h, q => q
  | n :: ns, h, q => fold_keep hf ns (hf h n q)
theorem row_keep {m low i : Int} {h : List Bool} (q : getB h i = true) : getB (rowC m low h) i = true := fold_keep (fun h n q => step_keep q) _ q
theorem pass_keep {m i : Int} {h : List Bool} (q : getB h i = true) : getB (passC m h) i = true := fold_keep (fun h n q => row_keep q) _ q
theorem run_keep {m i : Int} : ∀ (n : Nat) {h : List Bool}, getB h i = true → getB (runC m n h) i = true
  | 0, h, q => q
  | n + 1, h, q => by
    unfold runC
    split
    · exact pass_keep q
    · exact run_keep n (pass_keep q)
theorem start_some {ns : List Int} {s : Int} (hs : s ≤ 21) : getB (startC ns (some s) 24) 21 = true := by
  unfold getB startC
  rw [List.getD_eq_getElem?_getD, List.getElem?_map]
  have e : (rng 0 (24 + 2))[(21 : Int).toNat]? = some 21 := by rfl
  rw [e]
  show inn ns (some s) 21 = true
  rw [inn_iff]
  exact .inr ⟨s, rfl, hs⟩
theorem rng16 : rng 1 6 = [1, 2, 3, 4, 5] := by decide
theorem closed_top {ns : List Int} {st : Option Int} (h : ns.Sublist (rng 1 6)) (hs : ∀ s, st = some s → 1 ≤ s ∧ s ≤ 7) (q : getB (clo ns st) 20 = true) : getB (clo ns st) 21 = true := by
  cases st with
  | some s =>
    unfold clo
    exact run_keep 24 (start_some (by have := hs s rfl; omega))
  | none =>
    rw [rng16] at h
    have c := chk_none
    unfold chkC at c
    rw [List.all_eq_true] at c
    have c2 := c ns (mem_subs h)
    unfold okC at c2
    rw [q] at c2
    simpa using c2
theorem len_run (m : Int) : ∀ (n : Nat) (h : List Bool), (runC m n h).length = h.length
  | 0, h => rfl
  | n + 1, h => by
    unfold runC
    split
    · exact len_pass m h
    · rw [len_run m n, len_pass]
theorem len_closed (ns : List Int) (st : Option Int) : (clo ns st).length = 26 := by
  unfold clo
  rw [len_run]
  unfold startC
  rw [List.length_map, len_rng]; rfl
end Ma
end
section
set_option maxRecDepth 100000
set_option maxHeartbeats 1000000
set_option exponentiation.threshold 1000
namespace Ma
open PySem PySem.Spec L2 Vx Dv Ev
open Out (guard)
theorem SRes.then_of {s : SRes} {k : Vx.Env → SRes} {ρ : Vx.Env} (h : s = .nx ρ) : s.then k = k ρ := by rw [h]; rfl
theorem SRes.then_ret {s : SRes} {k : Vx.Env → SRes} {ρ : Vx.Env} {d : D} (h : s = .rt d ρ) : s.then k = .rt d ρ := by rw [h]; rfl
theorem outM_nx {s : SRes} {k : Vx.Env → SRes} {ρ : Vx.Env} {b : Bool} {x : Out (D × D)} (h : s = .nx ρ) (h2 : outM b (k ρ) = x) : outM b (s.then k) = x := by rw [h]; exact h2
theorem outM_rt {s : SRes} {k : Vx.Env → SRes} {r : Vx.Env} {b : Bool} {d e : D} (h : s = .rt d (.io e :: r)) : outM b (s.then k) = .ok (d, e) := by rw [h]; rfl
theorem outM_end {s : SRes} {r : Vx.Env} {b : Bool} {d e : D} (h : s = .rt d (.io e :: r)) : outM b s = .ok (d, e) := by rw [h]; rfl
theorem outP_nx {s : SRes} {k : Vx.Env → SRes} {ρ : Vx.Env} {b : Bool} {x : Out D} (h : s = .nx ρ) (h2 : outP b (k ρ) = x) : outP b (s.then k) = x := by rw [h]; exact h2
theorem outP_rt {s : SRes} {k : Vx.Env → SRes} {r : Vx.Env} {b : Bool} {d : D} (h : s = .rt d r) : outP b (s.then k) = .ok d := by rw [h]; rfl
theorem outP_end {s : SRes} {r : Vx.Env} {b : Bool} {d : D} (h : s = .rt d r) : outP b s = .ok d := by rw [h]; rfl
theorem good_list {a s c : Int} {first way : Int} {n : Nat} (hf : 1 ≤ first ∧ first ≤ 4) (g : GenOk s c (n + 10)) :
    ∃ (ns : List Int) (a' c' : Int), le1__law_good_set [.io (gen a s c), .sh (.int way), .sh (.int first), .no, .no, .no, .no] = .ok (.lst (ns.map .int)) [.io (gen a' s c'), .sh (.int way), .sh (.int first), .no, .no, .no, .no] ∧ GenOk s c' n ∧ ns.Sublist (rng first (2 * first)) := by
  have er : rng2 [.int first, .int (2 * first)] = .ok ((rng first (2 * first)).map .int) := rng_ok (by omega)
  have em : mulD (.int 2) (.int first) = .ok (.int (2 * first)) := mul_ok (by decide) (by omega)
  have hlen : ((rng first (2 * first)).map D.int).length ≤ 10 := by rw [List.length_map, len_rng]; omega
  obtain ⟨os, ρ', h1, ⟨a1, c1, rfl, g1⟩, h3⟩ := lcE_inv (I := fun k ρ => ∃ a' c', ρ = [.io (gen a' s c'), .sh (.int way), .sh (.int first), .no, .no, .no, .no] ∧ GenOk s c' (n + k)) (n := 0) (Good := fun d o => o = none ∨ o = some d)
    (mi := (fun ρ => flatI (fun ρ => ((getV ρ 2).bind fun d => (((Out.ok (D.int 2)).bind fun d => (getV ρ 2).bind fun e => mulD d e).bind fun d => (Out.ok []).bind fun ds => .ok (d :: ds)).bind fun ds => .ok (d :: ds)).bind rng2) ρ)) (f := (fun d ρ => setC ρ 6 (.sh d))) (mt := (fun ρ => (Vx.flatB (fun ρ => ((getV ρ 6).bind fun d => (getV ρ 2).bind fun e => eqD d e).bind toB) ρ).bind fun c ρ => if c = true then .ok true ρ else (((if (getO ρ 0).isSome = true then ((flatE (fun ρ => Out.ok (D.int 2)) ρ).bind fun d ρ => (Res.ok [] ρ).bind fun ds ρ => .ok (d :: ds) ρ).bind fun ds ρ => callM 2 0 F__law_random ds ρ else .stuck).bind fun d ρ => (flatE (fun ρ => Out.ok (D.int 0)) ρ).bind fun e ρ => liftO (eqD d e) ρ).bind toBE))) (me := (fun ρ => flatE (fun ρ => getV ρ 6) ρ)) (vs := [6])
    (ρ := [.io (gen a s c), .sh (.int way), .sh (.int first), .no, .no, .no, .no]) (ds := (rng first (2 * first)).map .int) (ρ1 := [.io (gen a s c), .sh (.int way), .sh (.int first), .no, .no, .no, .no]) (ρ2 := [.io (gen a s c), .sh (.int way), .sh (.int first), .no, .no, .no, .no]) (by simp [flatI, er, em]) rfl (Nat.le_trans hlen (Nat.le_trans (by decide) szl)) ⟨a, c, rfl, g.less (by omega)⟩ (fun d hd k ρ hI => by
      obtain ⟨a1, c1, rfl, g1⟩ := hI
      obtain ⟨m, _, rfl⟩ := List.mem_map.mp hd
      obtain ⟨x, a2, c2, h, h1, h2, g2⟩ := call_rand (a := a1) (b := 2) (r := [.sh (.int way), .sh (.int first), .no, .no, .no, .sh (.int m)]) g1 (by decide)
      by_cases hm : m = first
      · refine ⟨some (.int m), [.io (gen a1 s c1), .sh (.int way), .sh (.int first), .no, .no, .no, .no], ?_, ⟨a1, c1, rfl, g1.less (by omega)⟩, .inr rfl⟩
        simp [turn, setC_eq, flatE, Vx.flatB, liftO, eq_int, hm, toBE, wipeO, wipe1]
      · by_cases hx : x = 0
        · refine ⟨some (.int m), [.io (gen a2 s c2), .sh (.int way), .sh (.int first), .no, .no, .no, .no], ?_, ⟨a2, c2, rfl, g2⟩, .inr rfl⟩
          simp [turn, setC_eq, flatE, Vx.flatB, h, liftO, eq_int, hx, hm, toBE, wipeO, wipe1]
        · refine ⟨none, [.io (gen a2 s c2), .sh (.int way), .sh (.int first), .no, .no, .no, .no], ?_, ⟨a2, c2, rfl, g2⟩, .inl rfl⟩
          simp [turn, setC_eq, flatE, Vx.flatB, h, liftO, eq_int, hx, hm, toBE, wipeO, wipe1])
  obtain ⟨ns, e, sl⟩ := all2_sub h3
  rw [e] at h1
  exact ⟨ns, a1, c1, h1, g1, sl⟩
theorem idx_filter {h : List Bool} {i j : Int} (hi : 0 ≤ i) (hj : j ≤ h.length) (hj2 : j < 100000) {A B C E F : Option D} {m2 : PEnv → Out (List D)} (hr : m2 [A, B, C, E, some (bls h), F, none] = .ok ((rng i j).map .int)) :
    lcP m2 (fun (d : D) (ρ : PEnv) => Out.ok (ρ.set 6 (some d))) (fun ρ => ((getV ρ 4).bind fun d => (getV ρ 6).bind fun e => ixD d e).bind toB) (fun ρ => getV ρ 6) [6] [A, B, C, E, some (bls h), F, none] = .ok (.lst (((rng i j).filter (getB h)).map .int)) := by
  refine lcP_filter (ns := rng i j) (p := getB h) hr (by rw [len_rng]; exact Nat.le_trans (by omega) szl) fun n hn => ⟨[A, B, C, E, some (bls h), F, some (.int n)], rfl, ?_, fun _ => rfl⟩
  have hn' := mem_rng.mp hn
  have := ix_bls (h := h) (i := n) (by omega) (by omega)
  show ((ixD (bls h) (.int n)).bind toB) = _
  rw [this]; rfl
end Ma
end
section
set_option maxRecDepth 100000
set_option maxHeartbeats 1000000
set_option exponentiation.threshold 1000
namespace Ma
open PySem PySem.Spec L2 Vx Dv Ev
open Out (guard)
/-- what stands in a list of truth values from n on, up to 22 -/
def cutB (h : List Bool) (n : Int) : List Bool := (h.drop (HT.sIx h.length 0 (some n))).take (HT.sIx h.length h.length (some 22) - HT.sIx h.length 0 (some n))
theorem sl_bls (h : List Bool) (n : Int) : slD (bls h) (some n) (some 22) = .ok (bls (cutB h n)) := by
  show Out.ok (D.lst (cutD (h.map D.bl) (some n) (some 22))) = _
  unfold cutD bls cutB
  rw [List.length_map, List.map_take, List.map_drop]
theorem any_false : ∀ h : List Bool, ((h.map PyData.bool).any fun z => PyData.eqv z (.bool false)) = decide (false ∈ h)
  | [] => by simp
  | b :: h => by
    rw [List.map_cons, List.any_cons, any_false h]
    have : PyData.eqv (.bool b) (.bool false) = !b := by cases b <;> rfl
    rw [this]
    cases b <;> simp
theorem nin_bls (h : List Bool) : ninD (.bl false) (bls h) = .ok (.bl (!decide (false ∈ h))) := by
  show guard (SeqAt.shaped (py (.bl false)) && SeqAt.shaped (.list (pys (h.map .bl)))) (Out.ok (D.bl (!(pys (h.map .bl)).any fun z => PyData.eqv z (.bool false)))) = _
  rw [Out.guard_of (by rw [sh_bl, show SeqAt.shaped (.list (pys (h.map .bl))) = true from sh_bls h]; rfl), pys_bls, any_false]
theorem cut_21 {h : List Bool} (hl : h.length = 26) (q : getB h 21 = true) : cutB h 21 = [true] := by
  unfold cutB
  rw [hl]
  have e1 : HT.sIx 26 0 (some 21) = 21 := by decide
  have e2 : HT.sIx 26 26 (some 22) = 22 := by decide
  rw [e1, e2]
  unfold getB at q
  have hlt : 21 < h.length := by omega
  rw [List.drop_eq_getElem_cons hlt]
  have : h[21] = true := by
    rw [List.getD_eq_getElem?_getD] at q
    simpa [List.getElem?_eq_getElem hlt] using q
  rw [this]
  rfl
def freeB (h : List Bool) (n : Int) : Bool := !decide (false ∈ cutB h n)
theorem starts_ok {h : List Bool} {A B C E F : Option D} : lc3__law_good_set [A, B, C, E, some (bls h), F, none] = .ok (.lst (((rng 1 22).filter (freeB h)).map .int)) := by
  have er : rng2 [.int 1, .int 22] = .ok ((rng 1 22).map .int) := rng_ok (by decide)
  refine lcP_filter (ns := rng 1 22) (p := freeB h) (by simp [er]) (by rw [len_rng]; exact Nat.le_trans (by decide) szl) fun n hn => ⟨[A, B, C, E, some (bls h), F, some (.int n)], rfl, ?_, fun _ => rfl⟩
  have e1 : toI (.int 22) = .ok (some 22) := id rfl
  have e2 : toI (.int n) = .ok (some n) := id rfl
  simp [e1, e2, sl_bls, nin_bls, freeB]
theorem minOf_mem {ns : List Int} (h : ns ≠ []) : minOf ns ∈ ns := by
  cases ns with
  | nil => exact absurd rfl h
  | cons n ns =>
    rcases foldl_min_mem ns n with e | e
    · show ns.foldl min n ∈ _
      rw [e]; exact List.mem_cons_self
    · exact List.mem_cons_of_mem _ e
theorem min_lst {ns : List Int} (h : ns ≠ []) : minD [.lst (ns.map .int)] = .ok (.int (minOf ns)) := by
  have e : minD [.lst (ns.map .int)] = (Out.ok (ns.map D.int)).bind fun ds => (Out.ofOpt (ints? ds)).bind fun ns => guard (decide (0 < ns.length)) (.ok (.int (minOf ns))) := id rfl
  rw [e, Out.bind_ok, ints?_map]
  show guard (decide (0 < ns.length)) _ = _
  rw [Out.guard_of (decide_eq_true (List.length_pos_iff.mpr h))]
/-- numbers to 30, a start to 32 -/
structure Small (ns : List Int) (st : Option Int) : Prop where
  sub : ns.Sublist (rng 1 31)
  sta : ∀ s, st = some s → 1 ≤ s ∧ s ≤ 32
theorem rng_sub {i j k l : Int} (h : k ≤ i) (h2 : j ≤ l) (h3 : i ≤ j) : (rng i j).Sublist (rng k l) := by
  have e : ∀ {a b c : Int}, a ≤ b → b ≤ c → rng a c = rng a b ++ rng b c := fun {a b c} h1 h2 => by
    unfold rng
    rw [show (c - a).toNat = (b - a).toNat + (c - b).toNat by omega, List.range_add, List.map_append, List.map_map]
    congr 1
    refine List.map_congr_left fun x _ => ?_
    show a + ((((b - a).toNat + x : Nat)) : Int) = b + (x : Int)
    omega
  rw [e h (show i ≤ l by omega), e h3 h2]
  exact (List.sublist_append_left _ _).trans (List.sublist_append_right _ _)
theorem law_good_set_ok {a s c : Int} {n : Nat} (g : GenOk s c (n + 1100)) : ∃ ns st a' c', F__law_good_set (gen a s c) [] = .ok (told ns st, gen a' s c') ∧ GenOk s c' n ∧ Small ns st := by
  have sz0 : (0 : Nat) ≤ sizeLine := Nat.zero_le _
  have sz2 : (2 : Nat) ≤ sizeLine := Nat.le_trans (by decide) szl
  obtain ⟨x, a1, c1, hx, x0, x1, g1⟩ := call_rand (a := a) (b := 4) (r := [.no, .no, .no, .no, .no, .no]) (n := n + 1099) g (by decide)
  have st1 : ((if (getO [.io (gen a s c), .no, .no, .no, .no, .no, .no] 0).isSome = true then ((flatE (fun ρ => Out.ok (D.int 4)) [.io (gen a s c), .no, .no, .no, .no, .no, .no]).bind fun d ρ => (Res.ok [] ρ).bind fun ds ρ => .ok (d :: ds) ρ).bind fun ds ρ => callM 2 0 F__law_random ds ρ else .stuck).fin fun d ρ => orStuck (setC ρ 1 (.sh d)) .nx) = .nx [.io (gen a1 s c1), .sh (.int x), .no, .no, .no, .no, .no] := by
    simp [flatE, hx, setC_eq]
  by_cases q0 : x = 0
  · obtain ⟨y, a2, c2, hy, y0, y1, g2⟩ := call_rand (a := a1) (b := 4) (r := [.sh (.int x), .no, .no, .no, .no, .no]) (n := n) (g1.less (by omega)) (by decide)
    refine ⟨[], some (1 + y), a2, c2, ?_, g2, List.nil_sublist _, fun s h => by cases h; omega⟩
    refine outM_nx st1 (outM_rt (r := [.sh (.int x), .no, .no, .no, .no, .no]) ?_)
    simp [flatE, Vx.flatB, eq_int, q0, frzE, frz, sz0, liftO, sz2, told, optD]
    rw [q0] at hy
    simp [hy, sz2]
  · by_cases q1 : x = 1
    · obtain ⟨y, a2, c2, hy, y0, y1, g2⟩ := call_rand (a := a1) (b := 4) (r := [.sh (.int x), .no, .no, .no, .no, .no]) (n := n + 10) (g1.less (by omega)) (by decide)
      obtain ⟨ns, a3, c3, hl, g3, sl⟩ := good_list (a := a2) (c := c2) (s := s) (first := 1 + y) (way := x) (n := n) (by omega) g2
      refine ⟨ns, none, a3, c3, ?_, g3, sl.trans (rng_sub (by omega) (by omega) (by omega)), fun s h => by cases h⟩
      refine outM_nx st1 (outM_nx (ρ := [.io (gen a1 s c1), .sh (.int x), .no, .no, .no, .no, .no]) (by simp [Vx.flatB, eq_int, q0]) (outM_rt (r := [.sh (.int x), .sh (.int (1 + y)), .no, .no, .no, .no]) ?_))
      have e1 : Vx.flatB (fun ρ => ((getV ρ 1).bind fun d => (Out.ok (D.int 1)).bind fun e => eqD d e).bind toB) [.io (gen a1 s c1), .sh (.int x), .no, .no, .no, .no, .no] = .ok true [.io (gen a1 s c1), .sh (.int x), .no, .no, .no, .no, .no] := by
        simp [Vx.flatB, eq_int, q1]
      rw [e1, Res.fin_ok, if_pos rfl]
      refine Eq.trans (SRes.then_of (ρ := [.io (gen a2 s c2), .sh (.int x), .sh (.int (1 + y)), .no, .no, .no, .no]) (by simp [flatE, hy, liftO, setC_eq])) ?_
      rw [hl]
      simp [flatE, liftO, sz2, told, optD]
    · obtain ⟨ns, st, a2, c2, hs, g2, sl, hst⟩ := law_set_ok (a := a1) (most := 5) (n := n) (by decide) (g1.less (by omega))
      have eS : callM 2 0 F__law_set [.int 5] [.io (gen a1 s c1), .sh (.int x), .no, .no, .no, .no, .no] = .ok (told ns st) [.io (gen a2 s c2), .sh (.int x), .no, .no, .no, .no, .no] := by
        unfold callM
        rw [getO_io]
        simp only [List.length_cons, List.length_nil, hs, if_true]
        rfl
      have eC := law_closed_ok ns st (m := 24) (by decide)
      have hl := len_closed ns st
      have ct := closed_top (ns := ns) (st := st) sl hst
      have eC' : F__law_closed [told ns st, .int 24] = .ok (bls (clo ns st)) := by unfold clo; exact eC
      generalize hh : clo ns st = h at hl ct eC'
      generalize told ns st = T at eS eC'
      have i20 := ix_bls (h := h) (i := 20) (by decide) (by rw [hl]; decide)
      have eB : Vx.flatB (fun ρ => (((getV ρ 4).bind fun d => (Out.ok (D.int 20)).bind fun e => ixD d e).bind toB).bind fun c => .ok (!c)) [.io (gen a2 s c2), .sh (.int x), .no, .sh (T), .ow (bls h), .no, .no] = .ok (!getB h 20) [.io (gen a2 s c2), .sh (.int x), .no, .sh (T), .ow (bls h), .no, .no] := flatB_ok (by simp [i20])
      cases q20 : getB h 20 with
      | false =>
        rw [q20] at eB
        have er : rng2 [.int 1, .int 21] = .ok ((rng 1 21).map .int) := rng_ok (by decide)
        have e2 : lc2__law_good_set [none, some (.int x), none, some (T), some (bls h), none, none] = .ok (.lst (((rng 1 21).filter (getB h)).map .int)) := idx_filter (i := 1) (j := 21) (by decide) (by rw [hl]; decide) (by decide) (by simp [er])
        refine ⟨(rng 1 21).filter (getB h), none, a2, c2, ?_, g2, List.filter_sublist.trans (rng_sub (by decide) (by decide) (by decide)), fun s h => by cases h⟩
        refine outM_nx st1 (outM_nx (ρ := [.io (gen a1 s c1), .sh (.int x), .no, .no, .no, .no, .no]) (by simp [Vx.flatB, eq_int, q0]) (outM_nx (ρ := [.io (gen a1 s c1), .sh (.int x), .no, .no, .no, .no, .no]) (by simp [Vx.flatB, eq_int, q1]) ?_))
        refine outM_nx (ρ := [.io (gen a2 s c2), .sh (.int x), .no, .sh (T), .no, .no, .no]) (by simp [flatE, eS, setC_eq]) ?_
        refine outM_nx (ρ := [.io (gen a2 s c2), .sh (.int x), .no, .sh (T), .ow (bls h), .no, .no]) (by simp [frzE, frz, eC', setC_eq]) ?_
        refine outM_rt (r := [.sh (.int x), .no, .sh (T), .sh (bls h), .no, .no]) ?_
        rw [eB, Res.fin_ok, if_pos (by rfl)]
        simp [frzE, frz, frz1, e2, sz2, told, optD]
      | true =>
        rw [q20] at eB
        have c21 := ct q20
        have e3 : lc3__law_good_set [some (gen a2 s c2), some (.int x), none, some (T), some (bls h), none, none] = .ok (.lst (((rng 1 22).filter (freeB h)).map .int)) := starts_ok
        have ne : (rng 1 22).filter (freeB h) ≠ [] := by
          intro z
          have : (21 : Int) ∈ (rng 1 22).filter (freeB h) := List.mem_filter.mpr ⟨mem_rng.mpr (by decide), by unfold freeB; rw [cut_21 hl c21]; rfl⟩
          rw [z] at this; cases this
        have em := min_lst ne
        have mm := minOf_mem ne
        have mb := mem_rng.mp (List.mem_filter.mp mm).1
        generalize minOf ((rng 1 22).filter (freeB h)) = k at em mm mb
        have er : rng2 [.int 1, .int k] = .ok ((rng 1 k).map .int) := rng_ok (by omega)
        have e4 : lc4__law_good_set [none, some (.int x), none, some (T), some (bls h), some (.int k), none] = .ok (.lst (((rng 1 k).filter (getB h)).map .int)) := idx_filter (i := 1) (j := k) (by decide) (by rw [hl]; omega) (by omega) (by simp [er])
        refine ⟨(rng 1 k).filter (getB h), some k, a2, c2, ?_, g2, List.filter_sublist.trans (rng_sub (by decide) (by omega) (by omega)), fun s h => by cases h; omega⟩
        refine outM_nx st1 (outM_nx (ρ := [.io (gen a1 s c1), .sh (.int x), .no, .no, .no, .no, .no]) (by simp [Vx.flatB, eq_int, q0]) (outM_nx (ρ := [.io (gen a1 s c1), .sh (.int x), .no, .no, .no, .no, .no]) (by simp [Vx.flatB, eq_int, q1]) ?_))
        refine outM_nx (ρ := [.io (gen a2 s c2), .sh (.int x), .no, .sh (T), .no, .no, .no]) (by simp [flatE, eS, setC_eq]) ?_
        refine outM_nx (ρ := [.io (gen a2 s c2), .sh (.int x), .no, .sh (T), .ow (bls h), .no, .no]) (by simp [frzE, frz, eC', setC_eq]) ?_
        refine outM_nx (ρ := [.io (gen a2 s c2), .sh (.int x), .no, .sh (T), .ow (bls h), .no, .no]) (by rw [eB, Res.fin_ok, if_neg (by decide)]) ?_
        refine outM_nx (ρ := [.io (gen a2 s c2), .sh (.int x), .no, .sh (T), .ow (bls h), .sh (.int k), .no]) (by simp [flatE, e3, em, setC_eq]) ?_
        refine outM_end (r := [.sh (.int x), .no, .sh (T), .sh (bls h), .sh (.int k), .no]) ?_
        simp [frzE, frz, frz1, e4, sz2, told, optD]
end Ma
end
section
set_option maxRecDepth 100000
set_option maxHeartbeats 1000000
set_option exponentiation.threshold 1000
namespace Ma
open PySem PySem.Spec L2 Vx Dv Ev
open Out (guard)
/-! ### an object as the law asks it -/
theorem nodup_addK {ks : List Int} {n : Int} (h : ks.Nodup) : (addK ks n).Nodup := by
  unfold addK
  split
  · exact h
  · rename_i q
    rw [List.nodup_append]
    refine ⟨h, by simp, fun a ha b hb => ?_⟩
    rw [List.mem_singleton] at hb
    subst hb
    exact fun e => q (e ▸ ha)
theorem nodup_fold : ∀ {ns ks : List Int}, ks.Nodup → (ns.foldl addK ks).Nodup
  | [], _, h => h
  | n :: ns, _, h => nodup_fold (ns := ns) (nodup_addK h)
theorem nodup_keys (st : Option Int) (ns : List Int) : (keysOf st ns).Nodup := nodup_fold List.nodup_nil
theorem len_addK (ks : List Int) (n : Int) : (addK ks n).length ≤ ks.length + 1 := by
  unfold addK
  split
  · omega
  · rw [List.length_append]; simp
theorem len_foldK : ∀ (ns ks : List Int), (ns.foldl addK ks).length ≤ ks.length + ns.length
  | [], ks => by simp
  | n :: ns, ks => by
    rw [List.foldl_cons, List.length_cons]
    have := len_foldK ns (addK ks n)
    have := len_addK ks n
    omega
theorem len_keys (st : Option Int) (ns : List Int) : (keysOf st ns).length ≤ ns.length := by
  unfold keysOf
  have := len_foldK (ns.filter (below st)) []
  have := List.length_filter_le (below st) ns
  simp only [List.length_nil] at *
  omega
theorem lower_len : ∀ (f : Nat) (ks : List Int) (s : Int), (lower f ks s).1.length ≤ ks.length
  | 0, ks, s => Nat.le_refl _
  | f + 1, ks, s => by
    unfold lower
    split
    · exact Nat.le_trans (lower_len f _ _) (List.length_filter_le _ _)
    · exact Nat.le_refl _
theorem settle_len (st : Option Int) (ks : List Int) : (settle ks st).1.length ≤ ks.length := by
  cases st with
  | none => exact Nat.le_refl _
  | some s => exact lower_len _ _ _
theorem settle_sub {st : Option Int} {ks : List Int} {k : Int} (h : k ∈ (settle ks st).1) : k ∈ ks := by
  have go : ∀ (f : Nat) (ks : List Int) (s : Int), k ∈ (lower f ks s).1 → k ∈ ks := fun f => by
    induction f with
    | zero => exact fun ks s h => h
    | succ f ih =>
      intro ks s h
      unfold lower at h
      split at h
      · exact (List.mem_filter.mp (ih _ _ h)).1
      · exact h
  cases st with
  | none => exact h
  | some s => exact go _ _ _ h
theorem maxOf_mem {ns : List Int} (h : ns ≠ []) : maxOf ns ∈ ns := by
  cases ns with
  | nil => exact absurd rfl h
  | cons n ns =>
    rcases foldl_max_mem ns n with e | e
    · show ns.foldl max n ∈ _
      rw [e]; exact List.mem_cons_self
    · exact List.mem_cons_of_mem _ e
theorem bound_le {ks : List Int} {st : Option Int} {m : Int} (h : ∀ k ∈ ks, k ≤ m) (h2 : st.getD 0 ≤ m) : boundT ks st ≤ m := by
  unfold boundT
  have := maxOf_mem (ns := isort ks ++ [st.getD 0]) (by simp)
  rcases List.mem_append.mp this with q | q
  · exact h _ ((isort_perm ks).mem_iff.mp q)
  · rw [List.mem_singleton.mp q]; exact h2
theorem bound_ge (ks : List Int) (st : Option Int) : st.getD 0 ≤ boundT ks st := maxOf_le (List.mem_append_right _ (by simp))
/-- the settled object of numbers and a start to m -/
theorem settle_bound {ns : List Int} {st : Option Int} (h : Told ns st) {m : Int} (h0 : 0 ≤ m) (h1 : ∀ n ∈ ns, n ≤ m) (h2 : ∀ s, st = some s → s ≤ m) : 0 ≤ boundT (settle (keysOf st ns) st).1 (settle (keysOf st ns) st).2 ∧ boundT (settle (keysOf st ns) st).1 (settle (keysOf st ns) st).2 ≤ m := by
  have k1 : ∀ k ∈ (settle (keysOf st ns) st).1, k ≤ m := fun k hk => h1 k (mem_keysOf.mp (settle_sub hk)).1
  cases st with
  | none =>
    exact ⟨bound_ge (settle (keysOf none ns) none).1 none, bound_le k1 (by exact h0)⟩
  | some s =>
    have n2 := settle_neat h
    have n3 := (n2.sta _ rfl).1
    have le : (lower ((keysOf (some s) ns).length + 1) (keysOf (some s) ns) s).2 ≤ s := (lower_neat (f := (keysOf (some s) ns).length + 1) (ks := keysOf (some s) ns) (s := s) (fun k hk => (h.num k (mem_keysOf.mp hk).1).1) (h.sta s rfl).1 (fun k hk => by simpa [below] using (mem_keysOf.mp hk).2)).2.2
    have hs := h2 s rfl
    refine ⟨Int.le_trans (Int.le_trans (by decide) n3) (bound_ge (settle (keysOf (some s) ns) (some s)).1 (some _)), bound_le k1 ?_⟩
    show (lower ((keysOf (some s) ns).length + 1) (keysOf (some s) ns) s).2 ≤ m
    omega
theorem settle_fit {ns : List Int} {st : Option Int} (h : Told ns st) : Fit (settle (keysOf st ns) st).1 (settle (keysOf st ns) st).2 := by
  have b := settle_bound h (m := 1000) (by decide) (fun n hn => (h.num n hn).2) (fun s hs => (h.sta s hs).2)
  refine ⟨?_, fun s hs => ?_, by omega⟩
  · have := settle_len st (keysOf st ns)
    have := len_keys st ns
    have := h.len
    omega
  · cases st with
    | none => cases hs
    | some t =>
      have e : s ≤ boundT (settle (keysOf (some t) ns) (some t)).1 (settle (keysOf (some t) ns) (some t)).2 := by
        rw [hs]; exact start_bound
      have := ((settle_neat h).sta s hs).1
      omega
def wished (due : Option (Int × Int)) (L : Int) : Bool := match due with
  | none => true
  | some p => decide (L - 3 < p.1 + p.2)
theorem bad_up {i : Int → Bool} {m m' low high : Int} (h : m ≤ m') (b : Bad i m low high) : Bad i m' low high := ⟨b.o, b.l, by have := b.m; omega, b.il, b.ih, b.p⟩
theorem reach_wished {i : Int → Bool} {b L : Int} {due r : Option (Int × Int)} (hb : Least i b due) (hr : Least i (if b < L - 3 then b else L - 3) r) : r.isNone = wished due L := by
  have hle : (if b < L - 3 then b else L - 3) ≤ b := by split <;> omega
  have hle2 : (if b < L - 3 then b else L - 3) ≤ L - 3 := by split <;> omega
  have hge : ∀ x, x ≤ b → x ≤ L - 3 → x ≤ (if b < L - 3 then b else L - 3) := fun x _ _ => by split <;> omega
  generalize (if b < L - 3 then b else L - 3) = m at hr hle hle2 hge
  cases due with
  | none =>
    cases r with
    | none => rfl
    | some q => exact absurd (bad_up hle hr.1) (hb q.1 q.2)
  | some p =>
    show r.isNone = decide (L - 3 < p.1 + p.2)
    cases r with
    | none =>
      have : L - 3 < p.1 + p.2 := by
        refine Classical.byContradiction fun c => ?_
        have pb := hb.1
        exact hr p.1 p.2 ⟨pb.o, pb.l, hge _ pb.m (by omega), pb.il, pb.ih, pb.p⟩
      rw [decide_eq_true this]; rfl
    | some q =>
      have : ¬ (L - 3 < p.1 + p.2) := by
        intro c
        have := hr.1.m
        have := hb.2 q.1 q.2 (bad_up hle hr.1)
        omega
      rw [decide_eq_false this]; rfl
structure Right (d : D) (due : Option (Int × Int)) (le : Bool) : Prop where
  fa : F_fault [d] = .ok (optP due)
  go : F_good [d] = .ok (.bl due.isNone)
  ln : F_lean [d] = .ok (.bl le)
  ho : F_holds_to [d] = .ok (holdsT due)
  gt : ∀ L : Int, 0 ≤ L ∧ L ≤ 10000 → F_good_to [d, .int L] = .ok (.bl (wished due L))
/-- the object that numbers and a start make -/
def objD (ns : List Int) (st : Option Int) : D := letsD (settle (keysOf st ns) st).1 (settle (keysOf st ns) st).2
theorem right_of {ns : List Int} {st : Option Int} (h : Told ns st) {m : Int} {due : Option (Int × Int)} (hm : boundT (settle (keysOf st ns) st).1 (settle (keysOf st ns) st).2 ≤ m) (hd : Least (inn ns st) m due) :
    Right (objD ns st) due (leanP (settle (keysOf st ns) st).1 (settle (keysOf st ns) st).2) := by
  have fit := settle_fit h
  have a := faultP_least (settle_neat h) (boundT (settle (keysOf st ns) st).1 (settle (keysOf st ns) st).2)
  have b := (Least.more (fun n h1 _ => beyond h1 (by omega)) hm).mp a
  have e : faultP (settle (keysOf st ns) st).1 (settle (keysOf st ns) st).2 (boundT (settle (keysOf st ns) st).1 (settle (keysOf st ns) st).2) = due := Least.unique (b.congr (inn_settle ns st)) hd
  refine ⟨?_, ?_, lean_ok _ _ fit.len, ?_, fun L hL => ?_⟩
  · rw [← e]; exact fault_ok fit
  · rw [← e]; exact good_ok fit
  · rw [← e]; exact holds_to_ok fit
  · refine (good_to_ok fit hL).trans ?_
    rw [e] at a
    rw [reach_wished a (faultP_least (settle_neat h) (reach (settle (keysOf st ns) st).1 (settle (keysOf st ns) st).2 L))]
theorem lower_perm : ∀ (f : Nat) {ks ls : List Int} (s : Int), ks.Perm ls → (lower f ks s).1.Perm (lower f ls s).1 ∧ (lower f ks s).2 = (lower f ls s).2
  | 0, ks, ls, s, h => ⟨h, rfl⟩
  | f + 1, ks, ls, s, h => by
    unfold lower
    by_cases q : s - 1 ∈ ks
    · rw [if_pos q, if_pos (h.mem_iff.mp q)]
      exact lower_perm f _ (h.filter _)
    · rw [if_neg q, if_neg (fun z => q (h.mem_iff.mpr z))]
      exact ⟨h, rfl⟩
theorem isort_of_perm {ks ls : List Int} (h : ks.Perm ls) : isort ks = isort ls :=
  List.Perm.eq_of_pairwise (le := (· ≤ ·)) (fun a b _ _ h1 h2 => Int.le_antisymm h1 h2) (isort_sorted ks) (isort_sorted ls) ((isort_perm ks).trans (h.trans (isort_perm ls).symm))
theorem same_obj {ns ms : List Int} {st : Option Int} (h : ∀ n, n ∈ ns ↔ n ∈ ms) : isort (settle (keysOf st ns) st).1 = isort (settle (keysOf st ms) st).1 ∧ (settle (keysOf st ns) st).2 = (settle (keysOf st ms) st).2 := by
  have p : (keysOf st ns).Perm (keysOf st ms) := (List.perm_ext_iff_of_nodup (nodup_keys st ns) (nodup_keys st ms)).mpr fun n => by rw [mem_keysOf, mem_keysOf, h]
  cases st with
  | none => exact ⟨isort_of_perm p, rfl⟩
  | some s =>
    obtain ⟨a, b⟩ := lower_perm ((keysOf (some s) ns).length + 1) s p
    show isort (lower _ _ _).1 = isort (lower _ _ _).1 ∧ some (lower _ _ _).2 = some (lower _ _ _).2
    rw [← p.length_eq]
    exact ⟨isort_of_perm a, congrArg some b⟩
theorem obj_eq {ns ms : List Int} {st : Option Int} (h : ∀ n, n ∈ ns ↔ n ∈ ms) : eqOD 0 F_Lets_eq (objD ns st) (objD ms st) = .ok (.bl true) := by
  show guard (decide (0 = 0 ∧ 0 = 0)) (boolF (F_Lets_eq [objD ns st, objD ms st])) = _
  obtain ⟨a, b⟩ := same_obj (st := st) h
  have e : F_Lets_eq [objD ns st, objD ms st] = .ok (.bl true) := by
    refine (lets_eq_ok _ _ _ _).trans ?_
    rw [decide_eq_true a, decide_eq_true b]; rfl
  rw [e]; rfl
end Ma
end
section
set_option maxRecDepth 100000
set_option maxHeartbeats 1000000
set_option exponentiation.threshold 1000
namespace Ma
open PySem PySem.Spec L2 Vx Dv Ev
open Out (guard)
def rcells (G : D) (T V : D) (O : D) (due : Option (Int × Int)) (c5 c6 : Cell) : Vx.Env := [.io G, .sh T, .sh V, .ow O, .sh (optP due), c5, c6]
theorem right_body {G T V O : D} {due : Option (Int × Int)} {le : Bool} {L : Int} {c6 : Cell} (r : Right O due le) (hL : 0 ≤ L ∧ L ≤ 10000) (h6 : loose c6) :
    fb1__law_right (rcells G T V O due (.sh (.int L)) c6) = .nx (rcells G T V O due (.sh (.int L)) (.sh (.bl (wished due L)))) := by
  have g := r.gt L hL
  obtain ⟨s, hs, hn⟩ := repD_bl (wished due L)
  have p : perm_10 [D.int L, O] = [O, .int L] := rfl
  have nb := ne_bl (wished due L) (wished due L)
  rw [decide_eq_true rfl] at nb
  have st1 : ((flatE (fun ρ => (((getV ρ 4).bind fun d => .ok (.bl (Vx.isNon d))).bind toB).bind fun c => if c = true then .ok (.bl true) else ((((getV ρ 4).bind fun d => (Out.ok (D.int 0)).bind fun e => ixD d e).bind fun d => ((getV ρ 4).bind fun d => (Out.ok (D.int 1)).bind fun e => ixD d e).bind fun e => addD d e).bind fun d => ((getV ρ 5).bind fun d => (Out.ok (D.int 3)).bind fun e => subD d e).bind fun e => gtD d e)) (rcells G T V O due (.sh (.int L)) c6)).fin fun d ρ => orStuck (setC ρ 6 (.sh d)) .nx) = .nx (rcells G T V O due (.sh (.int L)) (.sh (.bl (wished due L)))) := by
    have e : flatE (fun ρ => (((getV ρ 4).bind fun d => .ok (.bl (Vx.isNon d))).bind toB).bind fun c => if c = true then .ok (.bl true) else ((((getV ρ 4).bind fun d => (Out.ok (D.int 0)).bind fun e => ixD d e).bind fun d => ((getV ρ 4).bind fun d => (Out.ok (D.int 1)).bind fun e => ixD d e).bind fun e => addD d e).bind fun d => ((getV ρ 5).bind fun d => (Out.ok (D.int 3)).bind fun e => subD d e).bind fun e => gtD d e)) (rcells G T V O due (.sh (.int L)) c6) = .ok (.bl (wished due L)) (rcells G T V O due (.sh (.int L)) c6) := by
      refine flatE_ok ?_ rfl
      cases due with
      | none => rfl
      | some p => simp [rcells, optP, isNon_pair, pair0, pair1, wished]
    rw [e, Res.fin_ok, setC_eq (by exact h6)]
    rfl
  refine Eq.trans (SRes.then_of st1) ?_
  generalize wished due L = w at g hs hn nb
  have e2 : Vx.flatB (fun ρ => (((((((getV ρ 3).bind fun d => ((getV ρ 5).bind fun d => (Out.ok []).bind fun ds => .ok (d :: ds)).bind fun ds => .ok (d :: ds)).bind fun ds => guard (decide (ds.length = 2)) (F_good_to ds)).bind fun d => (Out.ok []).bind fun ds => .ok (d :: ds)).bind (one1 reprD)).bind fun d => (((getV ρ 6).bind fun d => (Out.ok []).bind fun ds => .ok (d :: ds)).bind (one1 reprD)).bind fun e => neD d e).bind toB).bind fun c => if c = true then .ok true else (((((getV ρ 5).bind fun d => ((getV ρ 3).bind fun d => (Out.ok []).bind fun ds => .ok (d :: ds)).bind fun ds => .ok (d :: ds)).bind fun ds => guard (decide ((perm_10 ds).length = 2)) (F_good_to (perm_10 ds))).bind fun d => (getV ρ 6).bind fun e => neD d e).bind toB)) (rcells G T V O due (.sh (.int L)) (.sh (.bl w))) = .ok false (rcells G T V O due (.sh (.int L)) (.sh (.bl w))) := by
    refine flatB_ok ?_
    simp [rcells, g, one1, hs, hn, p, nb]
  show (Vx.flatB _ (rcells G T V O due (.sh (.int L)) (.sh (.bl w)))).fin _ = _
  rw [e2, Res.fin_ok, if_neg (by decide)]
theorem right_loop {G T V O : D} {due : Option (Int × Int)} {le : Bool} (r : Right O due le) {c5 c6 : Cell} (h5 : loose c5) (h6 : loose c6) {Ls : List Int} (hL : ∀ L ∈ Ls, 0 ≤ L ∧ L ≤ 10000) :
    ∃ c c', loose c ∧ loose c' ∧ forL (fun d ρ => setC ρ 5 (.sh d)) fb1__law_right (Ls.map .int) (rcells G T V O due c5 c6) = .nx (rcells G T V O due c c') := by
  obtain ⟨ρ', h1, c, c', hc, hc', h2⟩ := forL_rel (f := fun d ρ => setC ρ 5 (.sh d)) (body := fb1__law_right) (R := fun (_ : Unit) ρ => ∃ c c', loose c ∧ loose c' ∧ ρ = rcells G T V O due c c') (step := fun _ _ => ()) (ds := Ls.map .int) (s := ()) ⟨c5, c6, h5, h6, rfl⟩ (fun d hd k ρ hI => by
    obtain ⟨c, c', hc, hc', rfl⟩ := hI
    obtain ⟨L, hh, rfl⟩ := List.mem_map.mp hd
    exact ⟨rcells G T V O due (.sh (.int L)) c', _, setC_eq (by exact hc), right_body r (hL L hh) hc', .sh (.int L), .sh (.bl (wished due L)), rfl, rfl, rfl⟩)
  exact ⟨c, c', hc, hc', by rw [h1, h2]⟩
end Ma
end
section
set_option maxRecDepth 100000
set_option maxHeartbeats 1000000
set_option exponentiation.threshold 1000
namespace Ma
open PySem PySem.Spec L2 Vx Dv Ev
open Out (guard)
theorem told_small {ns : List Int} {st : Option Int} (h : Small ns st) : Told ns st := by
  have m := fun n hn => mem_rng.mp (h.sub.subset (a := n) hn)
  refine ⟨?_, fun n hn => by have := m n hn; omega, fun s hs => by have := h.sta s hs; omega⟩
  have := h.sub.length_le
  rw [len_rng] at this
  omega
theorem call_set {a s c : Int} {most : Int} {n : Nat} {r : Vx.Env} (hm : 0 ≤ most ∧ most ≤ 30) (g : GenOk s c (n + 1002)) : ∃ ns st a' c', callM 2 0 F__law_set [.int most] (.io (gen a s c) :: r) = .ok (told ns st) (.io (gen a' s c') :: r) ∧ GenOk s c' n ∧ Small ns st := by
  obtain ⟨ns, st, a', c', h, g', sl, hs⟩ := law_set_ok (a := a) (most := most) (n := n) (by omega) g
  refine ⟨ns, st, a', c', ?_, g', sl.trans (rng_sub (by omega) (by omega) (by omega)), fun s h => by have := hs s h; omega⟩
  unfold callM
  rw [getO_io]
  simp only [List.length_cons, List.length_nil, h, if_true]
  rfl
theorem call_good {a s c : Int} {n : Nat} {r : Vx.Env} (g : GenOk s c (n + 1100)) : ∃ ns st a' c', callM 1 0 F__law_good_set [] (.io (gen a s c) :: r) = .ok (told ns st) (.io (gen a' s c') :: r) ∧ GenOk s c' n ∧ Small ns st := by
  obtain ⟨ns, st, a', c', h, g', k⟩ := law_good_set_ok (a := a) (n := n) g
  refine ⟨ns, st, a', c', ?_, g', k⟩
  unfold callM
  rw [getO_io]
  simp only [List.length_nil, h, if_true]
  rfl
theorem right_1 {a s c : Int} {n : Nat} (g : GenOk s c (n + 1003)) : ∃ ns st a' c', (fun ρ : Vx.Env => (if (getO ρ 0).isSome = true then (((frzE [] (fun ρ => ((Out.ok (D.int 4)).bind fun d => ((Out.ok (D.int 9)).bind fun d => ((Out.ok (D.int 30)).bind fun d => (Out.ok []).bind fun ds => .ok (d :: ds)).bind fun ds => .ok (d :: ds)).bind fun ds => .ok (d :: ds)).bind fun ds => guard (decide (ds.length ≤ sizeLine)) (.ok (.lst ds))) ρ).bind fun d ρ => (if (getO ρ 0).isSome = true then ((flatE (fun ρ => Out.ok (D.int 3)) ρ).bind fun d ρ => (Res.ok [] ρ).bind fun ds ρ => .ok (d :: ds) ρ).bind fun ds ρ => callM 2 0 F__law_random ds ρ else .stuck).bind fun e ρ => liftO (ixD d e) ρ).bind fun d ρ => (Res.ok [] ρ).bind fun ds ρ => .ok (d :: ds) ρ).bind fun ds ρ => callM 2 0 F__law_set ds ρ else .stuck).fin fun d ρ => orStuck (setC ρ 1 (.sh d)) .nx) [.io (gen a s c), .no, .no, .no, .no, .no, .no] = .nx [.io (gen a' s c'), .sh (told ns st), .no, .no, .no, .no, .no] ∧ GenOk s c' n ∧ Small ns st := by
  have sz3 : (3 : Nat) ≤ sizeLine := Nat.le_trans (by decide) szl
  obtain ⟨x, a1, c1, hx, x0, x1, g1⟩ := call_rand (a := a) (b := 3) (r := [.no, .no, .no, .no, .no, .no]) (n := n + 1002) g (by decide)
  obtain ⟨m, hm, hi⟩ : ∃ m : Int, (0 ≤ m ∧ m ≤ 30) ∧ ixD (.lst [.int 4, .int 9, .int 30]) (.int x) = .ok (.int m) := by
    rcases (show x = 0 ∨ x = 1 ∨ x = 2 by omega) with rfl | rfl | rfl
    · exact ⟨4, by decide, rfl⟩
    · exact ⟨9, by decide, rfl⟩
    · exact ⟨30, by decide, rfl⟩
  obtain ⟨ns, st, a2, c2, hs, g2, k⟩ := call_set (a := a1) (most := m) (r := [.no, .no, .no, .no, .no, .no]) hm g1
  refine ⟨ns, st, a2, c2, ?_, g2, k⟩
  generalize told ns st = T at hs
  simp [frzE, frz, sz3, flatE, hx, liftO, hi, hs, setC_eq]
theorem right_2 {a s c : Int} {n : Nat} {ns0 : List Int} {st0 : Option Int} (k : Small ns0 st0) (g : GenOk s c (n + 1101)) : ∃ ns st a' c', (fun ρ : Vx.Env => (((if (getO ρ 0).isSome = true then ((flatE (fun ρ => Out.ok (D.int 3)) ρ).bind fun d ρ => (Res.ok [] ρ).bind fun ds ρ => .ok (d :: ds) ρ).bind fun ds ρ => callM 2 0 F__law_random ds ρ else .stuck).bind fun d ρ => (flatE (fun ρ => Out.ok (D.int 0)) ρ).bind fun e ρ => liftO (eqD d e) ρ).bind toBE).fin fun b ρ => if b = true then ((if (getO ρ 0).isSome = true then (Res.ok [] ρ).bind fun ds ρ => callM 1 0 F__law_good_set ds ρ else .stuck).fin fun d ρ => orStuck (setC ρ 1 (.sh d)) .nx) else (.nx ρ)) [.io (gen a s c), .sh (told ns0 st0), .no, .no, .no, .no, .no] = .nx [.io (gen a' s c'), .sh (told ns st), .no, .no, .no, .no, .no] ∧ GenOk s c' n ∧ Small ns st := by
  obtain ⟨x, a1, c1, hx, x0, x1, g1⟩ := call_rand (a := a) (b := 3) (r := [.sh (told ns0 st0), .no, .no, .no, .no, .no]) (n := n + 1100) g (by decide)
  obtain ⟨ns2, st2, a2, c2, hs, g2, k2⟩ := call_good (a := a1) (r := [.sh (told ns0 st0), .no, .no, .no, .no, .no]) g1
  by_cases q : x = 0
  · refine ⟨ns2, st2, a2, c2, ?_, g2, k2⟩
    generalize told ns2 st2 = U at hs
    generalize told ns0 st0 = T at hs hx
    simp [flatE, hx, liftO, eq_int, q, toBE, hs, setC_eq]
  · refine ⟨ns0, st0, a1, c1, ?_, g1.less (by omega), k⟩
    generalize told ns0 st0 = T at hs hx
    simp [flatE, hx, liftO, eq_int, q, toBE, setC_eq]
theorem right_3 {a s c : Int} {n : Nat} {ns : List Int} {st : Option Int} (k : Small ns st) (g : GenOk s c (n + 1)) : ∃ gs a' c', (fun ρ : Vx.Env => ((((if (getO ρ 0).isSome = true then ((flatE (fun ρ => Out.ok (D.int 2)) ρ).bind fun d ρ => (Res.ok [] ρ).bind fun ds ρ => .ok (d :: ds) ρ).bind fun ds ρ => callM 2 0 F__law_random ds ρ else .stuck).bind fun d ρ => (flatE (fun ρ => Out.ok (D.int 0)) ρ).bind fun e ρ => liftO (eqD d e) ρ).bind toBE).bind fun c ρ => if c = true then (frzE [] (fun ρ => (((getV ρ 1).bind fun d => (Out.ok (D.int 0)).bind fun e => ixD d e).bind fun d => (itemsL d).bind fun ds => .ok (.lst ds.reverse)).bind fun d => ((getV ρ 1).bind fun d => (Out.ok (D.int 0)).bind fun e => ixD d e).bind fun e => addD d e) ρ) else (frzE [] (fun ρ => (((getV ρ 1).bind fun d => (Out.ok (D.int 0)).bind fun e => ixD d e).bind fun d => (Out.ok []).bind fun ds => .ok (d :: ds)).bind (one1 fun d => (seqD d).bind fun ds => .ok (.lst ds))) ρ)).fin fun d ρ => orStuck (setC ρ 2 (.sh d)) .nx) [.io (gen a s c), .sh (told ns st), .no, .no, .no, .no, .no] = .nx [.io (gen a' s c'), .sh (told ns st), .sh (.lst (gs.map .int)), .no, .no, .no, .no] ∧ GenOk s c' n ∧ Told gs st ∧ ∀ n, n ∈ gs ↔ n ∈ ns := by
  have hk := told_small k
  have hlen := k.sub.length_le
  rw [len_rng] at hlen
  obtain ⟨x, a1, c1, hx, x0, x1, g1⟩ := call_rand (a := a) (b := 2) (r := [.sh (told ns st), .no, .no, .no, .no, .no]) (n := n) g (by decide)
  have i0 : ixD (told ns st) (.int 0) = .ok (.lst (ns.map .int)) := rfl
  by_cases q : x = 0
  · refine ⟨ns.reverse ++ ns, a1, c1, ?_, g1, ⟨?_, ?_, hk.sta⟩, fun n => by simp⟩
    · have e := add_lst (xs := ns.reverse) (ys := ns) (by rw [List.length_reverse]; exact Nat.le_trans (by omega) szl)
      rw [List.map_reverse] at e
      have e2 : itemsL (.lst (ns.map .int)) = .ok (ns.map .int) := rfl
      generalize told ns st = T at hx i0
      simp only [flatE, hx, liftO, eq_int, q, toBE, frzE, frz, List.foldl, viewS_cons, viewS_nil, shared_io, shared_sh, shared_no, getV_succ, getV_cons0, Out.bind_ok, i0, e2, e, getO_io, Option.isSome_some, if_true, Res.bind_ok, viewA_cons, viewA_nil, all_io, all_sh, all_no, scalar_int, decide_true, Res.fin_ok]
      rw [setC_eq (by rfl)]
      rfl
    · rw [List.length_append, List.length_reverse]; omega
    · intro n hn
      exact hk.num n (by simpa using hn)
  · refine ⟨ns, a1, c1, ?_, g1, hk, fun n => Iff.rfl⟩
    have e2 : seqD (.lst (ns.map .int)) = .ok (ns.map .int) := rfl
    have q' : decide (x = 0) = false := decide_eq_false q
    generalize told ns st = T at hx i0
    simp only [flatE, hx, liftO, eq_int, q', toBE, frzE, frz, List.foldl, viewS_cons, viewS_nil, shared_io, shared_sh, shared_no, getV_succ, getV_cons0, Out.bind_ok, i0, one1, e2, getO_io, Option.isSome_some, if_true, if_false, Bool.false_eq_true, Res.bind_ok, viewA_cons, viewA_nil, all_io, all_sh, all_no, scalar_int, Res.fin_ok]
    rw [setC_eq (by rfl)]
    rfl
end Ma
end
section
set_option maxRecDepth 100000
set_option maxHeartbeats 1000000
set_option exponentiation.threshold 1000
namespace Ma
open PySem PySem.Spec L2 Vx Dv Ev
open Out (guard)
theorem least_small {i : Int → Bool} {m : Int} {f : Option (Int × Int)} (hm : m ≤ 100000) (h : Least i m f) : SmallP f := by
  cases f with
  | none => trivial
  | some p =>
    have b := h.1
    have := b.o
    have := b.l
    have := b.m
    exact ⟨by omega, by omega⟩
theorem right_4 {G T : D} {gs : List Int} {st : Option Int} {due : Option (Int × Int)} (h : Told gs st) (i1 : ixD T (.int 1) = .ok (optD st)) (hf : F__law_fault [T, .int 80] = .ok (optP due)) :
    (fun ρ : Vx.Env => ((frzE [] (fun ρ => ((getV ρ 2).bind fun d => (((getV ρ 1).bind fun d => (Out.ok (D.int 1)).bind fun e => ixD d e).bind fun d => (Out.ok []).bind fun ds => .ok (d :: ds)).bind fun ds => .ok (d :: ds)).bind fun ds => guard (decide (ds.length + ([] : List D).length + 1 = 3)) (makeD 0 F_Lets_init [] ds)) ρ).bind fun d ρ => ((frzE [] (fun ρ => ((getV ρ 1).bind fun d => ((Out.ok (D.int 80)).bind fun d => (Out.ok []).bind fun ds => .ok (d :: ds)).bind fun ds => .ok (d :: ds)).bind fun ds => guard (decide (ds.length = 2)) (F__law_fault ds)) ρ).bind fun d ρ => (Res.ok [] ρ).bind fun ds ρ => .ok ((false, d) :: ds) ρ).bind fun ds ρ => .ok ((true, d) :: ds) ρ).fin fun ds ρ => orStuck (storeL [3, 4] ds ρ) .nx) [.io G, .sh T, .sh (.lst (gs.map .int)), .no, .no, .no, .no] = .nx (rcells G T (.lst (gs.map .int)) (objD gs st) due .no .no) := by
  have mk := make_ok h
  rw [show letsD (settle (keysOf st gs) st).1 (settle (keysOf st gs) st).2 = objD gs st from rfl] at mk
  generalize objD gs st = O at mk
  simp [frzE, frz, i1, mk, hf, storeL, setC_eq, rcells]
theorem right_5 {G T V O : D} {due : Option (Int × Int)} {le : Bool} (r : Right O due le) :
    (fun ρ : Vx.Env => (Vx.flatB (fun ρ => (((((getV ρ 3).bind fun d => (Out.ok []).bind fun ds => .ok (d :: ds)).bind fun ds => guard (decide (ds.length = 1)) (F_fault ds)).bind fun d => (getV ρ 4).bind fun e => neD d e).bind toB).bind fun c => if c = true then .ok true else ((((((getV ρ 3).bind fun d => (Out.ok []).bind fun ds => .ok (d :: ds)).bind fun ds => guard (decide ((perm_0 ds).length = 1)) (F_fault (perm_0 ds))).bind fun d => (getV ρ 4).bind fun e => neD d e).bind toB).bind fun c => if c = true then .ok true else ((((((((getV ρ 3).bind fun d => (Out.ok []).bind fun ds => .ok (d :: ds)).bind fun ds => guard (decide (ds.length = 1)) (F_good ds)).bind fun d => (Out.ok []).bind fun ds => .ok (d :: ds)).bind (one1 reprD)).bind fun d => ((((getV ρ 4).bind fun d => .ok (.bl (Vx.isNon d))).bind fun d => (Out.ok []).bind fun ds => .ok (d :: ds)).bind (one1 reprD)).bind fun e => neD d e).bind toB).bind fun c => if c = true then .ok true else (((((getV ρ 3).bind fun d => (Out.ok []).bind fun ds => .ok (d :: ds)).bind fun ds => guard (decide ((perm_0 ds).length = 1)) (F_good (perm_0 ds))).bind fun d => (((getV ρ 3).bind fun d => (Out.ok []).bind fun ds => .ok (d :: ds)).bind fun ds => guard (decide (ds.length = 1)) (F_good ds)).bind fun e => neD d e).bind toB)))) ρ).fin fun b ρ => if b = true then ((flatE (fun ρ => Out.ok (D.bl false)) ρ).fin fun d ρ => .rt d ρ) else (.nx ρ)) (rcells G T V O due .no .no) = .nx (rcells G T V O due .no .no) := by
  have h1 := r.fa
  have h2 := r.go
  obtain ⟨s, hs, hn⟩ := repD_bl due.isNone
  have p : perm_0 [O] = [O] := rfl
  have nb := ne_bl due.isNone due.isNone
  rw [decide_eq_true rfl] at nb
  have e : Vx.flatB (fun ρ => (((((getV ρ 3).bind fun d => (Out.ok []).bind fun ds => .ok (d :: ds)).bind fun ds => guard (decide (ds.length = 1)) (F_fault ds)).bind fun d => (getV ρ 4).bind fun e => neD d e).bind toB).bind fun c => if c = true then .ok true else ((((((getV ρ 3).bind fun d => (Out.ok []).bind fun ds => .ok (d :: ds)).bind fun ds => guard (decide ((perm_0 ds).length = 1)) (F_fault (perm_0 ds))).bind fun d => (getV ρ 4).bind fun e => neD d e).bind toB).bind fun c => if c = true then .ok true else ((((((((getV ρ 3).bind fun d => (Out.ok []).bind fun ds => .ok (d :: ds)).bind fun ds => guard (decide (ds.length = 1)) (F_good ds)).bind fun d => (Out.ok []).bind fun ds => .ok (d :: ds)).bind (one1 reprD)).bind fun d => ((((getV ρ 4).bind fun d => .ok (.bl (Vx.isNon d))).bind fun d => (Out.ok []).bind fun ds => .ok (d :: ds)).bind (one1 reprD)).bind fun e => neD d e).bind toB).bind fun c => if c = true then .ok true else (((((getV ρ 3).bind fun d => (Out.ok []).bind fun ds => .ok (d :: ds)).bind fun ds => guard (decide ((perm_0 ds).length = 1)) (F_good (perm_0 ds))).bind fun d => (((getV ρ 3).bind fun d => (Out.ok []).bind fun ds => .ok (d :: ds)).bind fun ds => guard (decide (ds.length = 1)) (F_good ds)).bind fun e => neD d e).bind toB)))) (rcells G T V O due .no .no) = .ok false (rcells G T V O due .no .no) := by
    refine flatB_ok ?_
    simp [rcells, h1, h2, p, ne_optP, isNon_optP, one1, hs, hn, nb]
  show (Vx.flatB _ (rcells G T V O due .no .no)).fin _ = _
  rw [e, Res.fin_ok, if_neg (by decide)]
theorem right_6 {G T V O : D} {due : Option (Int × Int)} {le : Bool} (r : Right O due le) (hl : F__law_lean [T, .int 70] = .ok (.bl le)) :
    (fun ρ : Vx.Env => (Vx.flatB (fun ρ => (((((((getV ρ 3).bind fun d => (Out.ok []).bind fun ds => .ok (d :: ds)).bind fun ds => guard (decide (ds.length = 1)) (F_lean ds)).bind fun d => (Out.ok []).bind fun ds => .ok (d :: ds)).bind (one1 reprD)).bind fun d => (((((getV ρ 1).bind fun d => ((Out.ok (D.int 70)).bind fun d => (Out.ok []).bind fun ds => .ok (d :: ds)).bind fun ds => .ok (d :: ds)).bind fun ds => guard (decide (ds.length = 2)) (F__law_lean ds)).bind fun d => (Out.ok []).bind fun ds => .ok (d :: ds)).bind (one1 reprD)).bind fun e => neD d e).bind toB).bind fun c => if c = true then .ok true else (((((getV ρ 3).bind fun d => (Out.ok []).bind fun ds => .ok (d :: ds)).bind fun ds => guard (decide ((perm_0 ds).length = 1)) (F_lean (perm_0 ds))).bind fun d => (((getV ρ 3).bind fun d => (Out.ok []).bind fun ds => .ok (d :: ds)).bind fun ds => guard (decide (ds.length = 1)) (F_lean ds)).bind fun e => neD d e).bind toB)) ρ).fin fun b ρ => if b = true then ((flatE (fun ρ => Out.ok (D.bl false)) ρ).fin fun d ρ => .rt d ρ) else (.nx ρ)) (rcells G T V O due .no .no) = .nx (rcells G T V O due .no .no) := by
  have h1 := r.ln
  obtain ⟨s, hs, hn⟩ := repD_bl le
  have p : perm_0 [O] = [O] := rfl
  have nb := ne_bl le le
  rw [decide_eq_true rfl] at nb
  have e : Vx.flatB (fun ρ => (((((((getV ρ 3).bind fun d => (Out.ok []).bind fun ds => .ok (d :: ds)).bind fun ds => guard (decide (ds.length = 1)) (F_lean ds)).bind fun d => (Out.ok []).bind fun ds => .ok (d :: ds)).bind (one1 reprD)).bind fun d => (((((getV ρ 1).bind fun d => ((Out.ok (D.int 70)).bind fun d => (Out.ok []).bind fun ds => .ok (d :: ds)).bind fun ds => .ok (d :: ds)).bind fun ds => guard (decide (ds.length = 2)) (F__law_lean ds)).bind fun d => (Out.ok []).bind fun ds => .ok (d :: ds)).bind (one1 reprD)).bind fun e => neD d e).bind toB).bind fun c => if c = true then .ok true else (((((getV ρ 3).bind fun d => (Out.ok []).bind fun ds => .ok (d :: ds)).bind fun ds => guard (decide ((perm_0 ds).length = 1)) (F_lean (perm_0 ds))).bind fun d => (((getV ρ 3).bind fun d => (Out.ok []).bind fun ds => .ok (d :: ds)).bind fun ds => guard (decide (ds.length = 1)) (F_lean ds)).bind fun e => neD d e).bind toB)) (rcells G T V O due .no .no) = .ok false (rcells G T V O due .no .no) := by
    refine flatB_ok ?_
    simp [rcells, h1, hl, p, one1, hs, hn, nb]
  show (Vx.flatB _ (rcells G T V O due .no .no)).fin _ = _
  rw [e, Res.fin_ok, if_neg (by decide)]
theorem right_7 {G T V O : D} {due : Option (Int × Int)} {le : Bool} (r : Right O due le) :
    (fun ρ : Vx.Env => (Vx.flatB (fun ρ => (((((getV ρ 3).bind fun d => (Out.ok []).bind fun ds => .ok (d :: ds)).bind fun ds => guard (decide (ds.length = 1)) (F_holds_to ds)).bind fun d => (((getV ρ 4).bind fun d => .ok (Vx.isNon d)).bind fun c => if c = true then (Out.ok D.non) else ((((getV ρ 4).bind fun d => (Out.ok (D.int 0)).bind fun e => ixD d e).bind fun d => ((getV ρ 4).bind fun d => (Out.ok (D.int 1)).bind fun e => ixD d e).bind fun e => addD d e).bind fun d => (Out.ok (D.int 2)).bind fun e => addD d e)).bind fun e => neD d e).bind toB).bind fun c => if c = true then .ok true else (((((getV ρ 3).bind fun d => (Out.ok []).bind fun ds => .ok (d :: ds)).bind fun ds => guard (decide ((perm_0 ds).length = 1)) (F_holds_to (perm_0 ds))).bind fun d => (((getV ρ 3).bind fun d => (Out.ok []).bind fun ds => .ok (d :: ds)).bind fun ds => guard (decide (ds.length = 1)) (F_holds_to ds)).bind fun e => neD d e).bind toB)) ρ).fin fun b ρ => if b = true then ((flatE (fun ρ => Out.ok (D.bl false)) ρ).fin fun d ρ => .rt d ρ) else (.nx ρ)) (rcells G T V O due .no .no) = .nx (rcells G T V O due .no .no) := by
  have h1 := r.ho
  have p : perm_0 [O] = [O] := rfl
  have nh := ne_holds due
  have e : Vx.flatB (fun ρ => (((((getV ρ 3).bind fun d => (Out.ok []).bind fun ds => .ok (d :: ds)).bind fun ds => guard (decide (ds.length = 1)) (F_holds_to ds)).bind fun d => (((getV ρ 4).bind fun d => .ok (Vx.isNon d)).bind fun c => if c = true then (Out.ok D.non) else ((((getV ρ 4).bind fun d => (Out.ok (D.int 0)).bind fun e => ixD d e).bind fun d => ((getV ρ 4).bind fun d => (Out.ok (D.int 1)).bind fun e => ixD d e).bind fun e => addD d e).bind fun d => (Out.ok (D.int 2)).bind fun e => addD d e)).bind fun e => neD d e).bind toB).bind fun c => if c = true then .ok true else (((((getV ρ 3).bind fun d => (Out.ok []).bind fun ds => .ok (d :: ds)).bind fun ds => guard (decide ((perm_0 ds).length = 1)) (F_holds_to (perm_0 ds))).bind fun d => (((getV ρ 3).bind fun d => (Out.ok []).bind fun ds => .ok (d :: ds)).bind fun ds => guard (decide (ds.length = 1)) (F_holds_to ds)).bind fun e => neD d e).bind toB)) (rcells G T V O due .no .no) = .ok false (rcells G T V O due .no .no) := by
    refine flatB_ok ?_
    cases due with
    | none =>
      simp only [holdsT] at h1 nh
      simp [rcells, optP, h1, p, nh]
    | some q =>
      simp only [holdsT] at h1 nh
      simp [rcells, optP, h1, p, nh, isNon_pair, pair0, pair1]
  show (Vx.flatB _ (rcells G T V O due .no .no)).fin _ = _
  rw [e, Res.fin_ok, if_neg (by decide)]
theorem right_8 {a s c : Int} {n : Nat} {T V O : D} {due : Option (Int × Int)} {le : Bool} (r : Right O due le) (g : GenOk s c (n + 1)) :
    ∃ a' c' c5 c6, (fun ρ : Vx.Env => ((((flatE (fun ρ => Out.ok (D.int 0)) ρ).bind fun d ρ => ((flatE (fun ρ => Out.ok (D.int 1)) ρ).bind fun d ρ => ((flatE (fun ρ => Out.ok (D.int 2)) ρ).bind fun d ρ => ((flatE (fun ρ => Out.ok (D.int 3)) ρ).bind fun d ρ => ((flatE (fun ρ => Out.ok (D.int 4)) ρ).bind fun d ρ => ((flatE (fun ρ => Out.ok (D.int 5)) ρ).bind fun d ρ => ((flatE (fun ρ => Out.ok (D.int 6)) ρ).bind fun d ρ => ((flatE (fun ρ => Out.ok (D.int 7)) ρ).bind fun d ρ => ((flatE (fun ρ => Out.ok (D.int 9)) ρ).bind fun d ρ => ((flatE (fun ρ => Out.ok (D.int 20)) ρ).bind fun d ρ => ((flatE (fun ρ => Out.ok (D.int 63)) ρ).bind fun d ρ => ((flatE (fun ρ => Out.ok (D.int 64)) ρ).bind fun d ρ => ((flatE (fun ρ => Out.ok (D.int 300)) ρ).bind fun d ρ => (((flatE (fun ρ => Out.ok (D.int 5)) ρ).bind fun d ρ => (if (getO ρ 0).isSome = true then ((flatE (fun ρ => Out.ok (D.int 60)) ρ).bind fun d ρ => (Res.ok [] ρ).bind fun ds ρ => .ok (d :: ds) ρ).bind fun ds ρ => callM 2 0 F__law_random ds ρ else .stuck).bind fun e ρ => liftO (addD d e) ρ).bind fun d ρ => (Res.ok [] ρ).bind fun ds ρ => .ok (d :: ds) ρ).bind fun ds ρ => .ok (d :: ds) ρ).bind fun ds ρ => .ok (d :: ds) ρ).bind fun ds ρ => .ok (d :: ds) ρ).bind fun ds ρ => .ok (d :: ds) ρ).bind fun ds ρ => .ok (d :: ds) ρ).bind fun ds ρ => .ok (d :: ds) ρ).bind fun ds ρ => .ok (d :: ds) ρ).bind fun ds ρ => .ok (d :: ds) ρ).bind fun ds ρ => .ok (d :: ds) ρ).bind fun ds ρ => .ok (d :: ds) ρ).bind fun ds ρ => .ok (d :: ds) ρ).bind fun ds ρ => .ok (d :: ds) ρ).bind fun ds ρ => .ok (d :: ds) ρ).bind fun ds ρ => liftO (guard (decide (ds.length ≤ sizeLine)) (.ok (.lst ds))) ρ).bind fun d ρ => match itemsL d with | .ok ds => .ok ds ρ | _ => .stuck).fin fun ds ρ => forL (fun d ρ => setC ρ 5 (.sh d)) fb1__law_right ds ρ) (rcells (gen a s c) T V O due .no .no) = .nx (rcells (gen a' s c') T V O due c5 c6) := by
  have sz : (14 : Nat) ≤ sizeLine := Nat.le_trans (by decide) szl
  obtain ⟨x, a1, c1, hx, x0, x1, g1⟩ := call_rand (a := a) (b := 60) (r := [.sh T, .sh V, .ow O, .sh (optP due), .no, .no]) (n := n) g (by decide)
  obtain ⟨c5, c6, _, _, e⟩ := right_loop (G := gen a1 s c1) (T := T) (V := V) r (c5 := .no) (c6 := .no) rfl rfl (Ls := [0, 1, 2, 3, 4, 5, 6, 7, 9, 20, 63, 64, 300, 5 + x]) (fun L hL => by
    simp only [List.mem_cons, List.not_mem_nil, or_false] at hL
    omega)
  refine ⟨a1, c1, c5, c6, ?_⟩
  rw [← e]
  generalize fb1__law_right = body
  simp [rcells, flatE, hx, liftO, sz, itemsL]
theorem right_9 {G T V O O2 : D} {due : Option (Int × Int)} {le : Bool} {ns : List Int} {st : Option Int} {c5 c6 : Cell} (r : Right O due le) (i0 : ixD T (.int 0) = .ok (.lst (ns.map .int))) (i1 : ixD T (.int 1) = .ok (optD st)) (mk : makeD 0 F_Lets_init [] [.lst (ns.map .int), optD st] = .ok O2) (he : eqOD 0 F_Lets_eq O O2 = .ok (.bl true)) :
    (fun ρ : Vx.Env => (flatE (fun ρ => (((((getV ρ 3).bind fun d => (Out.ok []).bind fun ds => .ok (d :: ds)).bind fun ds => guard (decide (ds.length = 1)) (F_fault ds)).bind fun d => (getV ρ 4).bind fun e => eqD d e).bind toB).bind fun c => if c = true then (((getV ρ 3).bind fun d => ((((((getV ρ 1).bind fun d => (Out.ok (D.int 0)).bind fun e => ixD d e).bind fun d => (Out.ok []).bind fun ds => .ok (d :: ds)).bind (one1 fun d => (seqD d).bind fun ds => .ok (.lst ds))).bind fun d => (((getV ρ 1).bind fun d => (Out.ok (D.int 1)).bind fun e => ixD d e).bind fun d => (Out.ok []).bind fun ds => .ok (d :: ds)).bind fun ds => .ok (d :: ds)).bind fun ds => guard (decide (ds.length + ([] : List D).length + 1 = 3)) (makeD 0 F_Lets_init [] ds)).bind fun e => eqOD 0 F_Lets_eq d e).bind fun d => (Out.ok (D.bl true)).bind fun e => isBD d e) else .ok (.bl false)) ρ).fin fun d ρ => .rt d ρ) (rcells G T V O due c5 c6) = .rt (.bl true) (rcells G T V O due c5 c6) := by
  have h1 := r.fa
  have e2 : seqD (.lst (ns.map .int)) = .ok (ns.map .int) := rfl
  have e3 : isBD (.bl true) (.bl true) = .ok (.bl true) := rfl
  have e : flatE (fun ρ => (((((getV ρ 3).bind fun d => (Out.ok []).bind fun ds => .ok (d :: ds)).bind fun ds => guard (decide (ds.length = 1)) (F_fault ds)).bind fun d => (getV ρ 4).bind fun e => eqD d e).bind toB).bind fun c => if c = true then (((getV ρ 3).bind fun d => ((((((getV ρ 1).bind fun d => (Out.ok (D.int 0)).bind fun e => ixD d e).bind fun d => (Out.ok []).bind fun ds => .ok (d :: ds)).bind (one1 fun d => (seqD d).bind fun ds => .ok (.lst ds))).bind fun d => (((getV ρ 1).bind fun d => (Out.ok (D.int 1)).bind fun e => ixD d e).bind fun d => (Out.ok []).bind fun ds => .ok (d :: ds)).bind fun ds => .ok (d :: ds)).bind fun ds => guard (decide (ds.length + ([] : List D).length + 1 = 3)) (makeD 0 F_Lets_init [] ds)).bind fun e => eqOD 0 F_Lets_eq d e).bind fun d => (Out.ok (D.bl true)).bind fun e => isBD d e) else .ok (.bl false)) (rcells G T V O due c5 c6) = .ok (.bl true) (rcells G T V O due c5 c6) := by
    refine flatE_ok ?_ rfl
    simp [rcells, h1, eq_optP, i0, i1, one1, e2, mk, he, e3]
  show (flatE _ (rcells G T V O due c5 c6)).fin _ = _
  rw [e, Res.fin_ok]
end Ma
end
section
set_option maxRecDepth 100000
set_option maxHeartbeats 1000000
set_option exponentiation.threshold 1000
namespace Ma
open PySem PySem.Spec L2 Vx Dv Ev
open Out (guard)
theorem inn_mem {ns gs : List Int} (st : Option Int) (h : ∀ n, n ∈ gs ↔ n ∈ ns) (m : Int) : inn gs st m = inn ns st m := by
  rw [Bool.eq_iff_iff, inn_iff, inn_iff, h]
theorem law_right_ok {a s c : Int} {n : Nat} (g : GenOk s c (n + 3000)) : ∃ x, F__law_right (gen a s c) [] = .ok (.bl true, x) := by
  obtain ⟨ns0, st0, a1, c1, e1, g1, k0⟩ := right_1 (a := a) (n := n + 1500) (g.less (by omega))
  obtain ⟨ns, st, a2, c2, e2, g2, k⟩ := right_2 (a := a1) (n := n + 100) k0 (g1.less (by omega))
  obtain ⟨gs, a3, c3, e3, g3, hg, hm⟩ := right_3 (a := a2) (n := n + 1) k (g2.less (by omega))
  have hk := told_small k
  have i0 : ixD (told ns st) (.int 0) = .ok (.lst (ns.map .int)) := rfl
  have i1 : ixD (told ns st) (.int 1) = .ok (optD st) := rfl
  have hf := law_fault_ok ns st (most := 80) (by decide)
  have hl := law_lean_ok ns st (most := 70) (by decide)
  have small : ∀ m ∈ ns, m ≤ 32 := fun m hm => by
    have := mem_rng.mp (k.sub.subset hm)
    omega
  have smallg : ∀ m ∈ gs, m ≤ 32 := fun m h => small m ((hm m).mp h)
  have b := settle_bound hg (m := 32) (by decide) smallg (fun s hs => (k.sta s hs).2)
  have ld : Least (inn gs st) 80 (faultT ns st 80) := (faultT_least ns st 80).congr fun m => (inn_mem st hm m).symm
  have r := right_of hg (m := 80) (by omega) ld
  have hle : leanP (settle (keysOf st gs) st).1 (settle (keysOf st gs) st).2 = leanT ns st 70 := by
    refine (lean_same hg (m := 70) (fun m h => by have := smallg m h; omega) (fun s hs => by have := k.sta s hs; omega)).trans ?_
    unfold leanT inside rich
    rw [show inn gs st = inn ns st from funext (inn_mem st hm)]
  rw [hle] at r
  have mk : makeD 0 F_Lets_init [] [.lst (ns.map .int), optD st] = .ok (objD ns st) := make_ok hk
  have he := obj_eq (st := st) hm
  obtain ⟨a4, c4, c5, c6, e8⟩ := right_8 (a := a3) (T := told ns st) (V := .lst (gs.map .int)) (n := n) r g3
  have e4 := right_4 (G := gen a3 s c3) hg i1 hf
  have e5 := right_5 (G := gen a3 s c3) (T := told ns st) (V := .lst (gs.map .int)) r
  have e6 := right_6 (G := gen a3 s c3) (T := told ns st) (V := .lst (gs.map .int)) r hl
  have e7 := right_7 (G := gen a3 s c3) (T := told ns st) (V := .lst (gs.map .int)) r
  have e9 := right_9 (G := gen a4 s c4) (V := .lst (gs.map .int)) (c5 := c5) (c6 := c6) r i0 i1 mk he
  refine ⟨gen a4 s c4, ?_⟩
  exact outM_nx e1 (outM_nx e2 (outM_nx e3 (outM_nx e4 (outM_nx e5 (outM_nx e6 (outM_nx e7 (outM_nx e8 (outM_end e9))))))))
end Ma
end
section
set_option maxRecDepth 100000
set_option maxHeartbeats 1000000
set_option exponentiation.threshold 1000
namespace Ma
open PySem PySem.Spec L2 Vx Dv Ev
open Out (guard)
def skey (G F W M N S Q T : Cell) : Vx.Env := [G, F, W, M, N, S, Q, T, .no]
theorem all2_ints {lo hi : Int} {ds : List D} {os : List (Option D)} (h : All2 (fun _ o => ∃ n : Int, o = some (.int n) ∧ lo ≤ n ∧ n < hi) ds os) : ∃ ms : List Int, os.filterMap id = ms.map .int ∧ ms.length = ds.length ∧ ∀ m ∈ ms, lo ≤ m ∧ m < hi := by
  induction h with
  | nil => exact ⟨[], rfl, rfl, fun _ h => by cases h⟩
  | @cons d o ds os h1 _ ih =>
    obtain ⟨ms, e, l, b⟩ := ih
    obtain ⟨n, rfl, h2⟩ := h1
    refine ⟨n :: ms, by rw [List.filterMap_cons]; show D.int n :: os.filterMap id = _; rw [e]; rfl, by rw [List.length_cons, List.length_cons, l], fun m hm => ?_⟩
    rcases List.mem_cons.mp hm with rfl | hm
    · exact h2
    · exact b m hm
theorem great_list {a s c : Int} {first many : Int} {W : Cell} {n : Nat} (hf : 1 ≤ first ∧ first ≤ 330) (hm : 1 ≤ many ∧ many ≤ 60) (g : GenOk s c (n + 60)) :
    ∃ (ns : List Int) (a' c' : Int), le1__law_great_set [.io (gen a s c), .sh (.int first), W, .sh (.int many), .no, .no, .no, .no, .no] = .ok (.lst (ns.map .int)) [.io (gen a' s c'), .sh (.int first), W, .sh (.int many), .no, .no, .no, .no, .no] ∧ GenOk s c' n ∧ ns.length = (many - 1).toNat ∧ ∀ m ∈ ns, first ≤ m ∧ m < 2 * first := by
  have er : rng1 [.int (many - 1)] = .ok ((rng 0 (many - 1)).map .int) := rng1_ok (by omega)
  have hlen : ((rng 0 (many - 1)).map D.int).length ≤ 60 := by rw [List.length_map, len_rng]; omega
  obtain ⟨os, ρ', h1, ⟨a1, c1, rfl, g1⟩, h3⟩ := lcE_inv (I := fun k ρ => ∃ a' c', ρ = [.io (gen a' s c'), .sh (.int first), W, .sh (.int many), .no, .no, .no, .no, .no] ∧ GenOk s c' (n + k)) (n := 0) (Good := fun _ o => ∃ m : Int, o = some (.int m) ∧ first ≤ m ∧ m < 2 * first)
    (mi := (fun ρ => flatI (fun ρ => (((getV ρ 3).bind fun d => (Out.ok (D.int 1)).bind fun e => subD d e).bind fun d => (Out.ok []).bind fun ds => .ok (d :: ds)).bind rng1) ρ)) (f := (fun d ρ => setC ρ 7 (.sh d))) (mt := (fun ρ => .ok true ρ)) (me := (fun ρ => (flatE (fun ρ => getV ρ 1) ρ).bind fun d ρ => (if (getO ρ 0).isSome = true then ((flatE (fun ρ => getV ρ 1) ρ).bind fun d ρ => (Res.ok [] ρ).bind fun ds ρ => .ok (d :: ds) ρ).bind fun ds ρ => callM 2 0 F__law_random ds ρ else .stuck).bind fun e ρ => liftO (addD d e) ρ)) (vs := [7])
    (ρ := [.io (gen a s c), .sh (.int first), W, .sh (.int many), .no, .no, .no, .no, .no]) (ds := (rng 0 (many - 1)).map .int) (ρ1 := [.io (gen a s c), .sh (.int first), W, .sh (.int many), .no, .no, .no, .no, .no]) (ρ2 := [.io (gen a s c), .sh (.int first), W, .sh (.int many), .no, .no, .no, .no, .no]) (by simp [flatI, er]) rfl (Nat.le_trans hlen (Nat.le_trans (by decide) szl)) ⟨a, c, rfl, g.less (by omega)⟩ (fun d hd k ρ hI => by
      obtain ⟨a1, c1, rfl, g1⟩ := hI
      obtain ⟨m, _, rfl⟩ := List.mem_map.mp hd
      obtain ⟨x, a2, c2, h, h1, h2, g2⟩ := call_rand (a := a1) (b := first) (r := [.sh (.int first), W, .sh (.int many), .no, .no, .no, .sh (.int m), .no]) g1 (by omega)
      refine ⟨some (.int (first + x)), [.io (gen a2 s c2), .sh (.int first), W, .sh (.int many), .no, .no, .no, .no, .no], ?_, ⟨a2, c2, rfl, g2⟩, _, rfl, by omega, by omega⟩
      simp [turn, setC_eq, flatE, h, liftO, wipeO, wipe1])
  obtain ⟨ns, e, l, b⟩ := all2_ints h3
  rw [e] at h1
  refine ⟨ns, a1, c1, h1, g1, ?_, b⟩
  rw [l, List.length_map, len_rng, Int.sub_zero]
theorem gset_1 {a s c : Int} {n : Nat} (g : GenOk s c (n + 2)) : ∃ first a' c', (fun ρ : Vx.Env => ((flatE (fun ρ => Out.ok (D.int 1)) ρ).bind fun d ρ => (if (getO ρ 0).isSome = true then (((frzE [] (fun ρ => ((Out.ok (D.int 60)).bind fun d => ((Out.ok (D.int 330)).bind fun d => (Out.ok []).bind fun ds => .ok (d :: ds)).bind fun ds => .ok (d :: ds)).bind fun ds => guard (decide (ds.length ≤ sizeLine)) (.ok (.lst ds))) ρ).bind fun d ρ => (if (getO ρ 0).isSome = true then ((flatE (fun ρ => Out.ok (D.int 2)) ρ).bind fun d ρ => (Res.ok [] ρ).bind fun ds ρ => .ok (d :: ds) ρ).bind fun ds ρ => callM 2 0 F__law_random ds ρ else .stuck).bind fun e ρ => liftO (ixD d e) ρ).bind fun d ρ => (Res.ok [] ρ).bind fun ds ρ => .ok (d :: ds) ρ).bind fun ds ρ => callM 2 0 F__law_random ds ρ else .stuck).bind fun e ρ => liftO (addD d e) ρ).fin fun d ρ => orStuck (setC ρ 1 (.sh d)) .nx) [.io (gen a s c), .no, .no, .no, .no, .no, .no, .no, .no] = .nx [.io (gen a' s c'), .sh (.int first), .no, .no, .no, .no, .no, .no, .no] ∧ GenOk s c' n ∧ 1 ≤ first ∧ first ≤ 330 := by
  have sz2 : (2 : Nat) ≤ sizeLine := Nat.le_trans (by decide) szl
  obtain ⟨x, a1, c1, hx, x0, x1, g1⟩ := call_rand (a := a) (b := 2) (r := [.no, .no, .no, .no, .no, .no, .no, .no]) (n := n + 1) g (by decide)
  obtain ⟨m, hm, hi⟩ : ∃ m : Int, (60 ≤ m ∧ m ≤ 330) ∧ ixD (.lst [.int 60, .int 330]) (.int x) = .ok (.int m) := by
    rcases (show x = 0 ∨ x = 1 by omega) with rfl | rfl
    · exact ⟨60, by decide, rfl⟩
    · exact ⟨330, by decide, rfl⟩
  obtain ⟨y, a2, c2, hy, y0, y1, g2⟩ := call_rand (a := a1) (b := m) (r := [.no, .no, .no, .no, .no, .no, .no, .no]) (n := n) g1 (by omega)
  refine ⟨1 + y, a2, c2, ?_, g2, by omega, by omega⟩
  simp [frzE, frz, sz2, flatE, hx, liftO, hi, hy, setC_eq]
theorem gset_2 {a s c : Int} {n : Nat} {F : D} (g : GenOk s c (n + 3)) : ∃ way many a' c', (fun ρ : Vx.Env => ((if (getO ρ 0).isSome = true then ((flatE (fun ρ => Out.ok (D.int 5)) ρ).bind fun d ρ => (Res.ok [] ρ).bind fun ds ρ => .ok (d :: ds) ρ).bind fun ds ρ => callM 2 0 F__law_random ds ρ else .stuck).bind fun d ρ => (((flatE (fun ρ => Out.ok (D.int 1)) ρ).bind fun d ρ => (if (getO ρ 0).isSome = true then (((frzE [] (fun ρ => ((Out.ok (D.int 6)).bind fun d => ((Out.ok (D.int 60)).bind fun d => (Out.ok []).bind fun ds => .ok (d :: ds)).bind fun ds => .ok (d :: ds)).bind fun ds => guard (decide (ds.length ≤ sizeLine)) (.ok (.lst ds))) ρ).bind fun d ρ => (if (getO ρ 0).isSome = true then ((flatE (fun ρ => Out.ok (D.int 2)) ρ).bind fun d ρ => (Res.ok [] ρ).bind fun ds ρ => .ok (d :: ds) ρ).bind fun ds ρ => callM 2 0 F__law_random ds ρ else .stuck).bind fun e ρ => liftO (ixD d e) ρ).bind fun d ρ => (Res.ok [] ρ).bind fun ds ρ => .ok (d :: ds) ρ).bind fun ds ρ => callM 2 0 F__law_random ds ρ else .stuck).bind fun e ρ => liftO (addD d e) ρ).bind fun d ρ => (Res.ok [] ρ).bind fun ds ρ => .ok ((false, d) :: ds) ρ).bind fun ds ρ => .ok ((false, d) :: ds) ρ).fin fun ds ρ => orStuck (storeL [2, 3] ds ρ) .nx) [.io (gen a s c), .sh F, .no, .no, .no, .no, .no, .no, .no] = .nx [.io (gen a' s c'), .sh F, .sh (.int way), .sh (.int many), .no, .no, .no, .no, .no] ∧ GenOk s c' n ∧ (0 ≤ way ∧ way < 5) ∧ 1 ≤ many ∧ many ≤ 60 := by
  have sz2 : (2 : Nat) ≤ sizeLine := Nat.le_trans (by decide) szl
  obtain ⟨w, a0, c0, hw, w0, w1, g0⟩ := call_rand (a := a) (b := 5) (r := [.sh F, .no, .no, .no, .no, .no, .no, .no]) (n := n + 2) g (by decide)
  obtain ⟨x, a1, c1, hx, x0, x1, g1⟩ := call_rand (a := a0) (b := 2) (r := [.sh F, .no, .no, .no, .no, .no, .no, .no]) (n := n + 1) g0 (by decide)
  obtain ⟨m, hm, hi⟩ : ∃ m : Int, (6 ≤ m ∧ m ≤ 60) ∧ ixD (.lst [.int 6, .int 60]) (.int x) = .ok (.int m) := by
    rcases (show x = 0 ∨ x = 1 by omega) with rfl | rfl
    · exact ⟨6, by decide, rfl⟩
    · exact ⟨60, by decide, rfl⟩
  obtain ⟨y, a2, c2, hy, y0, y1, g2⟩ := call_rand (a := a1) (b := m) (r := [.sh F, .no, .no, .no, .no, .no, .no, .no]) (n := n) g1 (by omega)
  refine ⟨w, 1 + y, a2, c2, ?_, g2, ⟨w0, w1⟩, by omega, by omega⟩
  simp [frzE, frz, sz2, flatE, hw, hx, liftO, hi, hy, storeL, setC_eq]
theorem gset_3 {a s c : Int} {n : Nat} {first many : Int} {W : D} (hf : 1 ≤ first ∧ first ≤ 330) (hm : 1 ≤ many ∧ many ≤ 60) (g : GenOk s c (n + 60)) : ∃ (ns : List Int) (a' c' : Int), (fun ρ : Vx.Env => ((frzE [] (fun ρ => ((getV ρ 1).bind fun d => (Out.ok []).bind fun ds => .ok (d :: ds)).bind fun ds => guard (decide (ds.length ≤ sizeLine)) (.ok (.lst ds))) ρ).bind fun d ρ => (le1__law_great_set ρ).bind fun e ρ => liftO (addD d e) ρ).fin fun d ρ => orStuck (setC ρ 4 (.sh d)) .nx) [.io (gen a s c), .sh (.int first), .sh W, .sh (.int many), .no, .no, .no, .no, .no] = .nx [.io (gen a' s c'), .sh (.int first), .sh W, .sh (.int many), .sh (.lst (ns.map .int)), .no, .no, .no, .no] ∧ GenOk s c' n ∧ ns.length ≤ 60 ∧ ∀ m ∈ ns, 1 ≤ m ∧ m < 2 * first := by
  have sz1 : (1 : Nat) ≤ sizeLine := Nat.le_trans (by decide) szl
  obtain ⟨ns, a1, c1, h1, g1, l, b⟩ := great_list (a := a) (W := .sh W) hf hm g
  refine ⟨first :: ns, a1, c1, ?_, g1, ?_, fun m hm => ?_⟩
  · have e := add_lst (xs := [first]) (ys := ns) (by rw [l]; exact Nat.le_trans (by simp only [List.length_cons, List.length_nil]; omega) szl)
    rw [show ([first].map D.int) = [D.int first] from rfl] at e
    simp [frzE, frz, sz1, h1, liftO, e, setC_eq]
  · rw [List.length_cons, l]; omega
  · rcases List.mem_cons.mp hm with rfl | hm
    · omega
    · have := b m hm; omega
end Ma
end
section
set_option maxRecDepth 100000
set_option maxHeartbeats 1000000
set_option exponentiation.threshold 1000
namespace Ma
open PySem PySem.Spec L2 Vx Dv Ev
open Out (guard)
abbrev gc (a s c first way many : Int) (ns : List Int) : Vx.Env := [.io (gen a s c), .sh (.int first), .sh (.int way), .sh (.int many), .sh (.lst (ns.map .int)), .no, .no, .no, .no]
theorem gset_4 {a s c first way many : Int} {ns : List Int} (h : way < 2) : (fun ρ : Vx.Env => (Vx.flatB (fun ρ => ((getV ρ 2).bind fun d => (Out.ok (D.int 2)).bind fun e => ltD d e).bind toB) ρ).fin fun b ρ => if b = true then ((frzE [] (fun ρ => ((getV ρ 4).bind fun d => ((Out.ok D.non).bind fun d => (Out.ok []).bind fun ds => .ok (d :: ds)).bind fun ds => .ok (d :: ds)).bind fun ds => guard (decide (ds.length ≤ sizeLine)) (.ok (.tup ds))) ρ).fin fun d ρ => .rt d ρ) else (.nx ρ)) (gc a s c first way many ns) = .rt (told ns none) (gc a s c first way many ns) := by
  have sz2 : (2 : Nat) ≤ sizeLine := Nat.le_trans (by decide) szl
  simp [Vx.flatB, h, frzE, frz, sz2, told, optD]
theorem gset_4n {a s c first way many : Int} {ns : List Int} (h : ¬ way < 2) : (fun ρ : Vx.Env => (Vx.flatB (fun ρ => ((getV ρ 2).bind fun d => (Out.ok (D.int 2)).bind fun e => ltD d e).bind toB) ρ).fin fun b ρ => if b = true then ((frzE [] (fun ρ => ((getV ρ 4).bind fun d => ((Out.ok D.non).bind fun d => (Out.ok []).bind fun ds => .ok (d :: ds)).bind fun ds => .ok (d :: ds)).bind fun ds => guard (decide (ds.length ≤ sizeLine)) (.ok (.tup ds))) ρ).fin fun d ρ => .rt d ρ) else (.nx ρ)) (gc a s c first way many ns) = .nx (gc a s c first way many ns) := by
  simp [Vx.flatB, h]
theorem gset_5 {a s c first way many : Int} {ns : List Int} {n : Nat} (h : way = 2) (hf : 1 ≤ first ∧ first ≤ 330) (hl : ns.length ≤ 60) (g : GenOk s c (n + 1)) : ∃ z a' c', (fun ρ : Vx.Env => (Vx.flatB (fun ρ => ((getV ρ 2).bind fun d => (Out.ok (D.int 2)).bind fun e => eqD d e).bind toB) ρ).fin fun b ρ => if b = true then (((((frzE [] (fun ρ => getV ρ 4) ρ).bind fun d ρ => (((((flatE (fun ρ => Out.ok (D.int 1000)) ρ).bind fun d ρ => (((flatE (fun ρ => (Out.ok (D.int 2)).bind fun d => (getV ρ 1).bind fun e => mulD d e) ρ).bind fun d ρ => (if (getO ρ 0).isSome = true then ((flatE (fun ρ => (Out.ok (D.int 2)).bind fun d => (getV ρ 1).bind fun e => mulD d e) ρ).bind fun d ρ => (Res.ok [] ρ).bind fun ds ρ => .ok (d :: ds) ρ).bind fun ds ρ => callM 2 0 F__law_random ds ρ else .stuck).bind fun e ρ => liftO (addD d e) ρ).bind fun d ρ => (Res.ok [] ρ).bind fun ds ρ => .ok (d :: ds) ρ).bind fun ds ρ => .ok (d :: ds) ρ).bind fun ds ρ => liftO ((minD) ds) ρ).bind fun d ρ => (Res.ok [] ρ).bind fun ds ρ => .ok (d :: ds) ρ).bind fun ds ρ => liftO (guard (decide (ds.length ≤ sizeLine)) (.ok (.lst ds))) ρ).bind fun e ρ => liftO (addD d e) ρ).bind fun d ρ => ((flatE (fun ρ => Out.ok D.non) ρ).bind fun d ρ => (Res.ok [] ρ).bind fun ds ρ => .ok (d :: ds) ρ).bind fun ds ρ => .ok (d :: ds) ρ).bind fun ds ρ => liftO (guard (decide (ds.length ≤ sizeLine)) (.ok (.tup ds))) ρ).fin fun d ρ => .rt d ρ) else (.nx ρ)) (gc a s c first way many ns) = .rt (told (ns ++ [z]) none) (gc a' s c' first way many ns) ∧ GenOk s c' n ∧ 1 ≤ z ∧ z ≤ 1000 := by
  have sz1 : (1 : Nat) ≤ sizeLine := Nat.le_trans (by decide) szl
  have sz2 : (2 : Nat) ≤ sizeLine := Nat.le_trans (by decide) szl
  obtain ⟨x, a1, c1, hx, x0, x1, g1⟩ := call_rand (a := a) (b := 2 * first) (r := [.sh (.int first), .sh (.int way), .sh (.int many), .sh (.lst (ns.map .int)), .no, .no, .no, .no]) (n := n) g (by omega)
  have em : mulD (.int 2) (.int first) = .ok (.int (2 * first)) := mul_ok (by decide) (by omega)
  have e2 := min2 1000 (2 * first + x)
  have hz : 1 ≤ (if 2 * first + x < 1000 then 2 * first + x else 1000) ∧ (if 2 * first + x < 1000 then 2 * first + x else 1000) ≤ 1000 := by split <;> omega
  generalize (if 2 * first + x < 1000 then 2 * first + x else 1000) = z at e2 hz
  have e := add_lst (xs := ns) (ys := [z]) (Nat.le_trans (by simp only [List.length_cons, List.length_nil]; omega) szl)
  rw [show ([z].map D.int) = [D.int z] from rfl] at e
  refine ⟨z, a1, c1, ?_, g1, hz⟩
  have e9 : told (ns ++ [z]) none = .tup [.lst ((ns ++ [z]).map .int), .non] := rfl
  rw [e9]
  generalize (ns ++ [z]).map D.int = ys at e
  simp [Vx.flatB, eq_int, h, frzE, frz, flatE, em, hx, liftO, e2, sz1, e, sz2]
  rw [h] at hx
  simp [hx, e2, sz1, e, sz2]
theorem gset_5n {a s c first way many : Int} {ns : List Int} (h : ¬ way = 2) : (fun ρ : Vx.Env => (Vx.flatB (fun ρ => ((getV ρ 2).bind fun d => (Out.ok (D.int 2)).bind fun e => eqD d e).bind toB) ρ).fin fun b ρ => if b = true then (((((frzE [] (fun ρ => getV ρ 4) ρ).bind fun d ρ => (((((flatE (fun ρ => Out.ok (D.int 1000)) ρ).bind fun d ρ => (((flatE (fun ρ => (Out.ok (D.int 2)).bind fun d => (getV ρ 1).bind fun e => mulD d e) ρ).bind fun d ρ => (if (getO ρ 0).isSome = true then ((flatE (fun ρ => (Out.ok (D.int 2)).bind fun d => (getV ρ 1).bind fun e => mulD d e) ρ).bind fun d ρ => (Res.ok [] ρ).bind fun ds ρ => .ok (d :: ds) ρ).bind fun ds ρ => callM 2 0 F__law_random ds ρ else .stuck).bind fun e ρ => liftO (addD d e) ρ).bind fun d ρ => (Res.ok [] ρ).bind fun ds ρ => .ok (d :: ds) ρ).bind fun ds ρ => .ok (d :: ds) ρ).bind fun ds ρ => liftO ((minD) ds) ρ).bind fun d ρ => (Res.ok [] ρ).bind fun ds ρ => .ok (d :: ds) ρ).bind fun ds ρ => liftO (guard (decide (ds.length ≤ sizeLine)) (.ok (.lst ds))) ρ).bind fun e ρ => liftO (addD d e) ρ).bind fun d ρ => ((flatE (fun ρ => Out.ok D.non) ρ).bind fun d ρ => (Res.ok [] ρ).bind fun ds ρ => .ok (d :: ds) ρ).bind fun ds ρ => .ok (d :: ds) ρ).bind fun ds ρ => liftO (guard (decide (ds.length ≤ sizeLine)) (.ok (.tup ds))) ρ).fin fun d ρ => .rt d ρ) else (.nx ρ)) (gc a s c first way many ns) = .nx (gc a s c first way many ns) := by
  simp [Vx.flatB, eq_int, h]
theorem gset_6 {a s c first way many : Int} {ns : List Int} {n : Nat} (h : way = 3) (hf : 1 ≤ first ∧ first ≤ 330) (g : GenOk s c (n + 1)) : ∃ z a' c', (fun ρ : Vx.Env => (Vx.flatB (fun ρ => ((getV ρ 2).bind fun d => (Out.ok (D.int 3)).bind fun e => eqD d e).bind toB) ρ).fin fun b ρ => if b = true then ((((frzE [] (fun ρ => getV ρ 4) ρ).bind fun d ρ => ((((flatE (fun ρ => Out.ok (D.int 1000)) ρ).bind fun d ρ => (((flatE (fun ρ => (Out.ok (D.int 2)).bind fun d => (getV ρ 1).bind fun e => mulD d e) ρ).bind fun d ρ => (if (getO ρ 0).isSome = true then ((flatE (fun ρ => (Out.ok (D.int 2)).bind fun d => (getV ρ 1).bind fun e => mulD d e) ρ).bind fun d ρ => (Res.ok [] ρ).bind fun ds ρ => .ok (d :: ds) ρ).bind fun ds ρ => callM 2 0 F__law_random ds ρ else .stuck).bind fun e ρ => liftO (addD d e) ρ).bind fun d ρ => (Res.ok [] ρ).bind fun ds ρ => .ok (d :: ds) ρ).bind fun ds ρ => .ok (d :: ds) ρ).bind fun ds ρ => liftO ((minD) ds) ρ).bind fun d ρ => (Res.ok [] ρ).bind fun ds ρ => .ok (d :: ds) ρ).bind fun ds ρ => .ok (d :: ds) ρ).bind fun ds ρ => liftO (guard (decide (ds.length ≤ sizeLine)) (.ok (.tup ds))) ρ).fin fun d ρ => .rt d ρ) else (.nx ρ)) (gc a s c first way many ns) = .rt (told ns (some z)) (gc a' s c' first way many ns) ∧ GenOk s c' n ∧ 1 ≤ z ∧ z ≤ 1000 := by
  have sz2 : (2 : Nat) ≤ sizeLine := Nat.le_trans (by decide) szl
  obtain ⟨x, a1, c1, hx, x0, x1, g1⟩ := call_rand (a := a) (b := 2 * first) (r := [.sh (.int first), .sh (.int way), .sh (.int many), .sh (.lst (ns.map .int)), .no, .no, .no, .no]) (n := n) g (by omega)
  have em : mulD (.int 2) (.int first) = .ok (.int (2 * first)) := mul_ok (by decide) (by omega)
  have e2 := min2 1000 (2 * first + x)
  have hz : 1 ≤ (if 2 * first + x < 1000 then 2 * first + x else 1000) ∧ (if 2 * first + x < 1000 then 2 * first + x else 1000) ≤ 1000 := by split <;> omega
  generalize (if 2 * first + x < 1000 then 2 * first + x else 1000) = z at e2 hz
  refine ⟨z, a1, c1, ?_, g1, hz⟩
  have e9 : told ns (some z) = .tup [.lst (ns.map .int), .int z] := rfl
  rw [e9]
  rw [h] at hx
  simp [Vx.flatB, eq_int, h, frzE, frz, flatE, em, hx, liftO, e2, sz2]
theorem gset_6n {a s c first way many : Int} {ns : List Int} (h : ¬ way = 3) : (fun ρ : Vx.Env => (Vx.flatB (fun ρ => ((getV ρ 2).bind fun d => (Out.ok (D.int 3)).bind fun e => eqD d e).bind toB) ρ).fin fun b ρ => if b = true then ((((frzE [] (fun ρ => getV ρ 4) ρ).bind fun d ρ => ((((flatE (fun ρ => Out.ok (D.int 1000)) ρ).bind fun d ρ => (((flatE (fun ρ => (Out.ok (D.int 2)).bind fun d => (getV ρ 1).bind fun e => mulD d e) ρ).bind fun d ρ => (if (getO ρ 0).isSome = true then ((flatE (fun ρ => (Out.ok (D.int 2)).bind fun d => (getV ρ 1).bind fun e => mulD d e) ρ).bind fun d ρ => (Res.ok [] ρ).bind fun ds ρ => .ok (d :: ds) ρ).bind fun ds ρ => callM 2 0 F__law_random ds ρ else .stuck).bind fun e ρ => liftO (addD d e) ρ).bind fun d ρ => (Res.ok [] ρ).bind fun ds ρ => .ok (d :: ds) ρ).bind fun ds ρ => .ok (d :: ds) ρ).bind fun ds ρ => liftO ((minD) ds) ρ).bind fun d ρ => (Res.ok [] ρ).bind fun ds ρ => .ok (d :: ds) ρ).bind fun ds ρ => .ok (d :: ds) ρ).bind fun ds ρ => liftO (guard (decide (ds.length ≤ sizeLine)) (.ok (.tup ds))) ρ).fin fun d ρ => .rt d ρ) else (.nx ρ)) (gc a s c first way many ns) = .nx (gc a s c first way many ns) := by
  simp [Vx.flatB, eq_int, h]
abbrev gd (a s c first way many : Int) (ns : List Int) (st mo : Int) (c7 : Cell) : Vx.Env := [.io (gen a s c), .sh (.int first), .sh (.int way), .sh (.int many), .sh (.lst (ns.map .int)), .sh (.int st), .sh (.int mo), c7, .no]
theorem gset_7 {a s c first way many : Int} {ns : List Int} {n : Nat} (g : GenOk s c (n + 2)) : ∃ st mo a' c', (fun ρ : Vx.Env => ((((flatE (fun ρ => Out.ok (D.int 4)) ρ).bind fun d ρ => (if (getO ρ 0).isSome = true then ((flatE (fun ρ => Out.ok (D.int 200)) ρ).bind fun d ρ => (Res.ok [] ρ).bind fun ds ρ => .ok (d :: ds) ρ).bind fun ds ρ => callM 2 0 F__law_random ds ρ else .stuck).bind fun e ρ => liftO (addD d e) ρ).bind fun d ρ => (((flatE (fun ρ => Out.ok (D.int 1)) ρ).bind fun d ρ => (if (getO ρ 0).isSome = true then ((flatE (fun ρ => Out.ok (D.int 4)) ρ).bind fun d ρ => (Res.ok [] ρ).bind fun ds ρ => .ok (d :: ds) ρ).bind fun ds ρ => callM 2 0 F__law_random ds ρ else .stuck).bind fun e ρ => liftO (addD d e) ρ).bind fun d ρ => (Res.ok [] ρ).bind fun ds ρ => .ok (d :: ds) ρ).bind fun ds ρ => .ok (d :: ds) ρ).bind fun ds ρ => liftO (guard (decide (ds.length ≤ sizeLine)) (.ok (.tup ds))) ρ).fin fun d ρ => orStuck ((fun d ρ => match d with | .tup ds => if ds.length = 2 then (fun ds ρ => match ds with | d :: ds => ((fun d ρ => setC ρ 5 (.sh d)) d ρ).bind fun ρ => (fun ds ρ => match ds with | d :: ds => ((fun d ρ => setC ρ 6 (.sh d)) d ρ).bind fun ρ => (fun ds ρ => match ds with | [] => some ρ | _ => none) ds ρ | [] => none) ds ρ | [] => none) ds ρ else none | _ => none) d ρ) .nx) (gc a s c first way many ns) = .nx (gd a' s c' first way many ns st mo .no) ∧ GenOk s c' n ∧ (4 ≤ st ∧ st ≤ 203) ∧ 1 ≤ mo ∧ mo ≤ 4 := by
  have sz2 : (2 : Nat) ≤ sizeLine := Nat.le_trans (by decide) szl
  obtain ⟨x, a1, c1, hx, x0, x1, g1⟩ := call_rand (a := a) (b := 200) (r := [.sh (.int first), .sh (.int way), .sh (.int many), .sh (.lst (ns.map .int)), .no, .no, .no, .no]) (n := n + 1) g (by decide)
  obtain ⟨y, a2, c2, hy, y0, y1, g2⟩ := call_rand (a := a1) (b := 4) (r := [.sh (.int first), .sh (.int way), .sh (.int many), .sh (.lst (ns.map .int)), .no, .no, .no, .no]) (n := n) g1 (by decide)
  refine ⟨4 + x, 1 + y, a2, c2, ?_, g2, by omega, by omega⟩
  simp [flatE, hx, hy, liftO, sz2, setC_eq]
theorem rng_cons {i j : Int} (h : i < j) : rng i j = i :: rng (i + 1) j := by
  unfold rng
  rw [show (j - i).toNat = (j - (i + 1)).toNat + 1 by omega, List.range_succ_eq_map, List.map_cons, List.map_map]
  congr 1
  · omega
  · refine List.map_congr_left fun x _ => ?_
    show i + ((x + 1 : Nat) : Int) = i + 1 + (x : Int)
    omega
theorem rng_nil {i j : Int} (h : j ≤ i) : rng i j = [] := by
  unfold rng
  rw [show (j - i).toNat = 0 by omega]
  rfl
/-- a loop over whole numbers, the one that comes next known -/
theorem forL_rng {f : D → Vx.Env → Option Vx.Env} {body : Vx.Env → SRes} {R : Int → Vx.Env → Prop} {j : Int} : ∀ (k : Nat) {i : Int} {ρ : Vx.Env}, (j - i).toNat = k → i ≤ j → R i ρ →
    (∀ t ρ, i ≤ t → t < j → R t ρ → ∃ ρ1 ρ2, f (.int t) ρ = some ρ1 ∧ body ρ1 = .nx ρ2 ∧ R (t + 1) ρ2) → ∃ ρ', forL f body ((rng i j).map .int) ρ = .nx ρ' ∧ R j ρ'
  | 0, i, ρ, hk, hi, hR, _ => by
    have : i = j := by omega
    subst this
    rw [rng_nil (Int.le_refl i)]
    exact ⟨ρ, rfl, hR⟩
  | k + 1, i, ρ, hk, hi, hR, h => by
    rw [rng_cons (show i < j by omega), List.map_cons]
    obtain ⟨ρ1, ρ2, h1, h2, h3⟩ := h i ρ (Int.le_refl i) (by omega) hR
    obtain ⟨ρ', h4, h5⟩ := forL_rng k (i := i + 1) (by omega) (by omega) h3 fun t ρ a b => h t ρ (by omega) b
    refine ⟨ρ', ?_, h5⟩
    unfold forL
    rw [h1, orStuck_some, h2]
    exact h4
def multi (t st : Int) : List Int := (rng 0 t).map fun k => t * st + k
theorem multi_ok {A B C E F G H : Option D} {t st : Int} (ht : 1 ≤ t ∧ t ≤ 4) (hs : 4 ≤ st ∧ st ≤ 203) : lc2__law_great_set [A, B, C, E, F, some (.int st), G, some (.int t), H] = .ok (.lst ((multi t st).map .int)) := by
  have er : rng1 [.int t] = .ok ((rng 0 t).map .int) := rng1_ok (by omega)
  have em : mulD (.int t) (.int st) = .ok (.int (t * st)) := mul_ok (by omega) (by omega)
  have e := lcP_ok (mi := (fun ρ => ((getV ρ 7).bind fun d => (Out.ok []).bind fun ds => .ok (d :: ds)).bind rng1)) (fg := (fun (d : D) (ρ : PEnv) => Out.ok (ρ.set 8 (some d)))) (mt := (fun ρ => .ok true)) (me := (fun ρ => ((getV ρ 7).bind fun d => (getV ρ 5).bind fun e => mulD d e).bind fun d => (getV ρ 8).bind fun e => addD d e)) (vs := [8]) (ρ := [A, B, C, E, F, some (.int st), G, some (.int t), H]) (ds := (rng 0 t).map .int) (g := fun d => match d with | .int n => some (.int (t * st + n)) | _ => none) (by simp [er]) (by rw [List.length_map, len_rng]; exact Nat.le_trans (by omega) szl) (fun d hd => by
    obtain ⟨n, _, rfl⟩ := List.mem_map.mp hd
    simp [compF, wipeV, em])
  refine Eq.trans e ?_
  unfold multi
  congr 2
  generalize rng 0 t = l
  induction l with
  | nil => rfl
  | cons n l ih => rw [List.map_cons, List.filterMap_cons]; simp only []; rw [ih]; rfl
theorem multi_len (t st : Int) : (multi t st).length = t.toNat := by unfold multi; rw [List.length_map, len_rng, Int.sub_zero]
theorem multi_mem {t st m : Int} (ht : 1 ≤ t ∧ t ≤ 4) (hs : 4 ≤ st ∧ st ≤ 203) (h : m ∈ multi t st) : 1 ≤ m ∧ m ≤ 1000 := by
  unfold multi at h
  obtain ⟨k, hk, rfl⟩ := List.mem_map.mp h
  have := mem_rng.mp hk
  rcases (show t = 1 ∨ t = 2 ∨ t = 3 ∨ t = 4 by omega) with rfl | rfl | rfl | rfl <;> omega
theorem rep_lst (xs : List Int) (b : Bool) (h : xs.length ≤ 1000) : mulD (.lst (xs.map .int)) (.int (if b = true then 1 else 0)) = .ok (.lst ((if b = true then xs else []).map .int)) := by
  show guard (decide (-(2 ^ 63) ≤ (if b = true then (1 : Int) else 0) ∧ (if b = true then (1 : Int) else 0) < 2 ^ 63 ∧ (xs.map D.int).length * (if b = true then (1 : Int) else 0).toNat ≤ sizeLine)) (Out.ok (D.lst (List.replicate (if b = true then (1 : Int) else 0).toNat (xs.map D.int)).flatten)) = _
  have hz := szl
  cases b with
  | true =>
    rw [Out.guard_of (by rw [decide_eq_true_eq, List.length_map]; exact ⟨by decide, by decide, by show xs.length * 1 ≤ _; omega⟩)]
    show Out.ok (D.lst (List.replicate 1 (xs.map D.int)).flatten) = _
    simp
  | false =>
    rw [Out.guard_of (by rw [decide_eq_true_eq, List.length_map]; exact ⟨by decide, by decide, by show xs.length * 0 ≤ _; omega⟩)]
    rfl
theorem gset_turn {a s c first way many : Int} {ms : List Int} {st mo t : Int} (ht : 1 ≤ t ∧ t ≤ 4) (hs : 4 ≤ st ∧ st ≤ 203) (hl : ms.length ≤ 100) (hn : ∀ m ∈ ms, 1 ≤ m ∧ m ≤ 1000) :
    ∃ ms', fb3__law_great_set (gd a s c first way many ms st mo (.sh (.int t))) = .nx (gd a s c first way many ms' st mo (.sh (.int t))) ∧ ms'.length ≤ ms.length + 4 ∧ ∀ m ∈ ms', 1 ≤ m ∧ m ≤ 1000 := by
  have e1 := rep_lst ms (decide (1 < t)) (by omega)
  have e0 : intD (.bl (decide (1 < t))) = .ok (.int (if decide (1 < t) = true then 1 else 0)) := rfl
  have e2 := multi_ok (A := none) (B := some (D.int first)) (C := some (D.int way)) (E := some (D.int many)) (F := some (D.lst (ms.map D.int))) (G := some (D.int mo)) (H := none) ht hs
  have l : (if decide (1 < t) = true then ms else []).length ≤ ms.length := by split <;> simp
  have e3 := add_lst (xs := if decide (1 < t) = true then ms else []) (ys := multi t st) (Nat.le_trans (by rw [multi_len]; omega) szl)
  refine ⟨(if decide (1 < t) = true then ms else []) ++ multi t st, ?_, ?_, fun m hm => ?_⟩
  · generalize hX : (if decide (1 < t) = true then ms else []) = X at e1 e3
    generalize hI : (if decide (1 < t) = true then (1 : Int) else 0) = I at e0 e1
    generalize multi t st = Y at e2 e3
    unfold fb3__law_great_set
    have ef : frzE [] (fun ρ => ((getV ρ 4).bind fun d => ((((getV ρ 7).bind fun d => (Out.ok (D.int 1)).bind fun e => gtD d e).bind fun d => (Out.ok []).bind fun ds => .ok (d :: ds)).bind (one1 intD)).bind fun e => mulD d e).bind fun d => (lc2__law_great_set ρ).bind fun e => addD d e) (gd a s c first way many ms st mo (.sh (.int t))) = .ok (.lst ((X ++ Y).map .int)) (gd a s c first way many ms st mo (.sh (.int t))) := by
      unfold frzE
      rw [show viewS (frz [] (gd a s c first way many ms st mo (.sh (.int t)))) = [none, some (.int first), some (.int way), some (.int many), some (.lst (ms.map .int)), some (.int st), some (.int mo), some (.int t), none] from rfl]
      simp only [getV_succ, getV_cons0, Out.bind_ok, gt_ok, one1, e0, e1, e2, e3]
      rfl
    rw [ef, Res.fin_ok, setC_eq (by rfl)]
    rfl
  · rw [List.length_append, multi_len]; omega
  · rcases List.mem_append.mp hm with q | q
    · split at q
      · exact hn m q
      · cases q
    · exact multi_mem ht hs q
theorem gset_8 {a s c first way many : Int} {ns : List Int} {st mo : Int} (hs : 4 ≤ st ∧ st ≤ 203) (hm : 1 ≤ mo ∧ mo ≤ 4) (hl : ns.length ≤ 60) (hn : ∀ m ∈ ns, 1 ≤ m ∧ m ≤ 1000) :
    ∃ ms c7, (fun ρ : Vx.Env => (flatI (fun ρ => ((Out.ok (D.int 1)).bind fun d => (((getV ρ 6).bind fun d => (Out.ok (D.int 1)).bind fun e => addD d e).bind fun d => (Out.ok []).bind fun ds => .ok (d :: ds)).bind fun ds => .ok (d :: ds)).bind rng2) ρ).fin fun ds ρ => forL (fun d ρ => setC ρ 7 (.sh d)) fb3__law_great_set ds ρ) (gd a s c first way many ns st mo .no) = .nx (gd a s c first way many ms st mo c7) ∧ ms.length ≤ 100 ∧ ∀ m ∈ ms, 1 ≤ m ∧ m ≤ 1000 := by
  have er : rng2 [.int 1, .int (mo + 1)] = .ok ((rng 1 (mo + 1)).map .int) := rng_ok (by omega)
  obtain ⟨ρ', h1, ms, c7, hc, hl2, hn2, h2⟩ := forL_rng (f := fun d ρ => setC ρ 7 (.sh d)) (body := fb3__law_great_set) (R := fun k ρ => ∃ ms c7, loose c7 ∧ (ms.length : Int) ≤ 60 + 4 * k ∧ (∀ m ∈ ms, 1 ≤ m ∧ m ≤ 1000) ∧ ρ = gd a s c first way many ms st mo c7) (i := 1) (j := mo + 1) _ (ρ := gd a s c first way many ns st mo .no) rfl (by omega) ⟨ns, .no, rfl, by omega, hn, rfl⟩ (fun t ρ h1 h2 hI => by
    obtain ⟨ms, c7, hc, hl2, hn2, rfl⟩ := hI
    obtain ⟨ms', e, l', n'⟩ := gset_turn (a := a) (s := s) (c := c) (first := first) (way := way) (many := many) (ms := ms) (st := st) (mo := mo) (t := t) (by omega) hs (by omega) hn2
    exact ⟨gd a s c first way many ms st mo (.sh (.int t)), _, setC_eq (by exact hc), e, ms', .sh (.int t), rfl, by omega, n', rfl⟩)
  refine ⟨ms, c7, ?_, ?_, hn2⟩
  · rw [← h2, ← h1]
    generalize fb3__law_great_set = body
    simp [flatI, er]
  · omega
end Ma
end
section
set_option maxRecDepth 100000
set_option maxHeartbeats 1000000
set_option exponentiation.threshold 1000
namespace Ma
open PySem PySem.Spec L2 Vx Dv Ev
open Out (guard)
theorem gset_9 {a s c first way many : Int} {ns : List Int} {st mo : Int} {c7 : Cell} {n : Nat} (hs : 4 ≤ st ∧ st ≤ 203) (hm : 1 ≤ mo ∧ mo ≤ 4) (hl : ns.length ≤ 100) (hn : ∀ m ∈ ns, 1 ≤ m ∧ m ≤ 1000) (g : GenOk s c (n + 1)) :
    ∃ ms a' c', (fun ρ : Vx.Env => ((((frzE [] (fun ρ => getV ρ 4) ρ).bind fun d ρ => ((frzE [] (fun ρ => ((((getV ρ 5).bind fun d => (getV ρ 6).bind fun e => mulD d e).bind fun d => (getV ρ 6).bind fun e => addD d e).bind fun d => (Out.ok []).bind fun ds => .ok (d :: ds)).bind fun ds => guard (decide (ds.length ≤ sizeLine)) (.ok (.lst ds))) ρ).bind fun d ρ => ((((if (getO ρ 0).isSome = true then ((flatE (fun ρ => Out.ok (D.int 4)) ρ).bind fun d ρ => (Res.ok [] ρ).bind fun ds ρ => .ok (d :: ds) ρ).bind fun ds ρ => callM 2 0 F__law_random ds ρ else .stuck).bind fun d ρ => (flatE (fun ρ => Out.ok (D.int 0)) ρ).bind fun e ρ => liftO (eqD d e) ρ).bind fun d ρ => (Res.ok [] ρ).bind fun ds ρ => .ok (d :: ds) ρ).bind fun ds ρ => liftO ((one1 intD) ds) ρ).bind fun e ρ => liftO (mulD d e) ρ).bind fun e ρ => liftO (addD d e) ρ).bind fun d ρ => ((flatE (fun ρ => Out.ok D.non) ρ).bind fun d ρ => (Res.ok [] ρ).bind fun ds ρ => .ok (d :: ds) ρ).bind fun ds ρ => .ok (d :: ds) ρ).bind fun ds ρ => liftO (guard (decide (ds.length ≤ sizeLine)) (.ok (.tup ds))) ρ).fin fun d ρ => .rt d ρ) (gd a s c first way many ns st mo c7) = .rt (told ms none) (gd a' s c' first way many ns st mo c7) ∧ GenOk s c' n ∧ ms.length ≤ 200 ∧ ∀ m ∈ ms, 1 ≤ m ∧ m ≤ 1000 := by
  have sz1 : (1 : Nat) ≤ sizeLine := Nat.le_trans (by decide) szl
  have sz2 : (2 : Nat) ≤ sizeLine := Nat.le_trans (by decide) szl
  obtain ⟨x, a1, c1, hx, x0, x1, g1⟩ := call_rand (a := a) (b := 4) (r := [.sh (.int first), .sh (.int way), .sh (.int many), .sh (.lst (ns.map .int)), .sh (.int st), .sh (.int mo), c7, .no]) (n := n) g (by decide)
  have em : mulD (.int st) (.int mo) = .ok (.int (st * mo)) := mul_ok (by omega) (by omega)
  have e0 : intD (.bl (decide (x = 0))) = .ok (.int (if decide (x = 0) = true then 1 else 0)) := rfl
  have e1 := rep_lst [st * mo + mo] (decide (x = 0)) (by simp)
  have hb : 1 ≤ st * mo + mo ∧ st * mo + mo ≤ 1000 := by
    rcases (show mo = 1 ∨ mo = 2 ∨ mo = 3 ∨ mo = 4 by omega) with rfl | rfl | rfl | rfl <;> omega
  have l : (if decide (x = 0) = true then [st * mo + mo] else []).length ≤ 1 := by split <;> simp
  have e3 := add_lst (xs := ns) (ys := if decide (x = 0) = true then [st * mo + mo] else []) (Nat.le_trans (by omega) szl)
  have hX : ∀ m ∈ (if decide (x = 0) = true then [st * mo + mo] else []), 1 ≤ m ∧ m ≤ 1000 := fun m hm => by
    split at hm
    · rw [List.mem_singleton.mp hm]; exact hb
    · cases hm
  rw [show ([st * mo + mo].map D.int) = [D.int (st * mo + mo)] from rfl] at e1
  generalize (if decide (x = 0) = true then [st * mo + mo] else []) = X at e1 e3 l hX
  generalize (if decide (x = 0) = true then (1 : Int) else 0) = I at e0 e1
  refine ⟨ns ++ X, a1, c1, ?_, g1, ?_, fun m hm => ?_⟩
  · have e9 : told (ns ++ X) none = .tup [.lst ((ns ++ X).map .int), .non] := rfl
    rw [e9]
    generalize (ns ++ X).map D.int = Y at e3
    generalize X.map D.int = Z at e1 e3
    simp [gd, frzE, frz, em, sz1, flatE, hx, liftO, eq_int, one1, e0, e1, e3, sz2]
  · rw [List.length_append]; omega
  · rcases List.mem_append.mp hm with q | q
    · exact hn m q
    · exact hX m q
theorem law_great_set_ok {a s c : Int} {n : Nat} (g : GenOk s c (n + 200)) : ∃ ns st a' c', F__law_great_set (gen a s c) [] = .ok (told ns st, gen a' s c') ∧ GenOk s c' n ∧ Told ns st := by
  obtain ⟨first, a1, c1, e1, g1, hf1, hf2⟩ := gset_1 (a := a) (n := n + 190) (g.less (by omega))
  obtain ⟨way, many, a2, c2, e2, g2, hw, hm⟩ := gset_2 (a := a1) (F := .int first) (n := n + 180) (g1.less (by omega))
  obtain ⟨ns, a3, c3, e3, g3, l3, b3⟩ := gset_3 (a := a2) (first := first) (many := many) (W := .int way) (n := n + 100) ⟨hf1, hf2⟩ hm (g2.less (by omega))
  have bn : ∀ m ∈ ns, 1 ≤ m ∧ m ≤ 1000 := fun m h => by have := b3 m h; omega
  by_cases q4 : way < 2
  · have e4 := gset_4 (a := a3) (s := s) (c := c3) (first := first) (many := many) (ns := ns) q4
    exact ⟨ns, none, a3, c3, outM_nx e1 (outM_nx e2 (outM_nx e3 (outM_rt e4))), g3.less (by omega), by omega, bn, fun s h => by cases h⟩
  · have e4 := gset_4n (a := a3) (s := s) (c := c3) (first := first) (many := many) (ns := ns) q4
    by_cases q5 : way = 2
    · obtain ⟨z, a5, c5, e5, g5, hz⟩ := gset_5 (a := a3) (c := c3) (first := first) (many := many) (ns := ns) (n := n + 50) q5 ⟨hf1, hf2⟩ l3 (g3.less (by omega))
      refine ⟨ns ++ [z], none, a5, c5, outM_nx e1 (outM_nx e2 (outM_nx e3 (outM_nx e4 (outM_rt e5)))), g5.less (by omega), by rw [List.length_append]; simp; omega, fun m h => ?_, fun s h => by cases h⟩
      rcases List.mem_append.mp h with q | q
      · exact bn m q
      · rw [List.mem_singleton.mp q]; exact hz
    · have e5 := gset_5n (a := a3) (s := s) (c := c3) (first := first) (many := many) (ns := ns) q5
      by_cases q6 : way = 3
      · obtain ⟨z, a6, c6, e6, g6, hz⟩ := gset_6 (a := a3) (c := c3) (first := first) (many := many) (ns := ns) (n := n + 50) q6 ⟨hf1, hf2⟩ (g3.less (by omega))
        exact ⟨ns, some z, a6, c6, outM_nx e1 (outM_nx e2 (outM_nx e3 (outM_nx e4 (outM_nx e5 (outM_rt e6))))), g6.less (by omega), by omega, bn, fun s h => by cases h; exact hz⟩
      · have e6 := gset_6n (a := a3) (s := s) (c := c3) (first := first) (many := many) (ns := ns) q6
        obtain ⟨st, mo, a7, c7, e7, g7, hs, hmo⟩ := gset_7 (a := a3) (c := c3) (first := first) (way := way) (many := many) (ns := ns) (n := n + 50) (g3.less (by omega))
        obtain ⟨ms, k7, e8, l8, b8⟩ := gset_8 (a := a7) (s := s) (c := c7) (first := first) (way := way) (many := many) (ns := ns) hs hmo l3 bn
        obtain ⟨ks, a9, c9, e9, g9, l9, b9⟩ := gset_9 (a := a7) (c := c7) (first := first) (way := way) (many := many) (ns := ms) (c7 := k7) (n := n) hs hmo l8 b8 (g7.less (by omega))
        exact ⟨ks, none, a9, c9, outM_nx e1 (outM_nx e2 (outM_nx e3 (outM_nx e4 (outM_nx e5 (outM_nx e6 (outM_nx e7 (outM_nx e8 (outM_end e9)))))))), g9, l9, b9, fun s h => by cases h⟩
end Ma
end
section
set_option maxRecDepth 100000
set_option maxHeartbeats 1000000
set_option exponentiation.threshold 1000
namespace Ma
open PySem PySem.Spec L2 Vx Dv Ev
open Out (guard)
/-! ### the law's search with a dict -/
/-- keys that are whole numbers, each with 0 -/
def kz (ks : List Int) : List (Key × D) := ks.map fun k => (Sum.inl k, D.int 0)
theorem kz_has (ks : List Int) (n : Int) : (valD (kz ks) (Sum.inl n)).isSome = decide (n ∈ ks) := by
  induction ks with
  | nil => rfl
  | cons k ks ih =>
    unfold valD at ih ⊢
    show (((Sum.inl k, D.int 0) :: kz ks).find? _ |>.map (·.2)).isSome = _
    by_cases h : k = n
    · subst h; rw [List.find?_cons_of_pos (by simp)]; simp
    · rw [List.find?_cons_of_neg (by simp [h]), ih]
      simp [Ne.symm h]
theorem kz_put (ks : List Int) (n : Int) : putD (kz ks) (Sum.inl n) (.int 0) = kz (addK ks n) := by
  have e : ((kz ks).any fun kv => decide (kv.1 = Sum.inl n)) = decide (n ∈ ks) := by
    unfold kz
    induction ks with
    | nil => rfl
    | cons k ks ih =>
      rw [List.map_cons, List.any_cons, ih]
      by_cases h : k = n
      · simp [h]
      · simp [h, Ne.symm h]
  unfold putD addK
  rw [e]
  by_cases h : n ∈ ks
  · rw [if_pos (by simpa using h), if_pos h]
    unfold kz
    rw [List.map_map]
    refine List.map_congr_left fun k _ => ?_
    by_cases q : k = n <;> simp [q]
  · rw [if_neg (by simpa using h), if_neg h]
    unfold kz
    rw [List.map_append]; rfl
theorem merge_kz : ∀ (ns ks : List Int), mergeD (kz ks) (kz ns) = kz (ns.foldl addK ks)
  | [], ks => rfl
  | n :: ns, ks => by
    have e : mergeD (kz ks) (kz (n :: ns)) = mergeD (putD (kz ks) (Sum.inl n) (.int 0)) (kz ns) := rfl
    rw [e, kz_put, merge_kz ns, List.foldl_cons]
theorem pairs_kz : ∀ ns : List Int, pairsD (ns.map fun n => D.tup [.int n, .int 0]) = some (kz ns)
  | [] => rfl
  | n :: ns => by
    rw [List.map_cons]
    show ((keyD (.int n)).bind fun k => (pairsD (ns.map fun n => D.tup [.int n, .int 0])).map ((k, D.int 0) :: ·)) = _
    rw [pairs_kz ns]
    rfl
theorem intKeys_kz : ∀ ks : List Int, intKeys (kz ks) = some ks
  | [] => rfl
  | k :: ks => by
    show (intKeys (kz ks)).map (k :: ·) = _
    rw [intKeys_kz ks]; rfl
theorem ind_kz (n : Int) (ks : List Int) : indD (.int n) (.dF (kz ks)) = .ok (.bl (decide (n ∈ ks))) := by
  show Out.ok (D.bl (valD (kz ks) (Sum.inl n)).isSome) = _
  rw [kz_has]
theorem keys_kz (ks : List Int) : keysD (.dF (kz ks)) = .ok (ks.map .int) := by
  show Out.ok ((kz ks).map fun kv => ofKey kv.1) = _
  congr 1
  unfold kz
  rw [List.map_map]
  rfl
theorem law_has_ok (ks : List Int) (st : Option Int) (n : Int) : F__law_has [.dF (kz ks), optD st, .int n] = .ok (.bl (inn ks st n)) := by
  cases st with
  | none => by_cases h : n ∈ ks <;> simp [F__law_has, M__law_has, cells, optD, flatE, outP, ind_kz, inn, h]
  | some s => by_cases h : n ∈ ks <;> simp [F__law_has, M__law_has, cells, optD, flatE, outP, ind_kz, inn, h]
def gcl (ks : List Int) (st : Option Int) (f : Option (Int × Int)) (c3 c4 c5 : Cell) : Vx.Env := [.sh (.dF (kz ks)), .sh (optD st), .sh (optP f), c3, c4, c5]
theorem great_body {ks : List Int} {st : Option Int} {f : Option (Int × Int)} {low high m : Int} {c5 : Cell} (h5 : loose c5) (hm : low + high ≤ m) :
    ∃ c, loose c ∧ fb1__law_great_fault (gcl ks st f (.sh (.int low)) (.sh (.int high)) c5) = .nx (gcl ks st (look ks st m f low high) (.sh (.int low)) (.sh (.int high)) c) := by
  have sz2 : (2 : Nat) ≤ sizeLine := Nat.le_trans (by decide) szl
  refine ⟨.sh (.bl (decide (low ≤ high) && (inn ks st (low + high) != inn ks st (low + high + 1)))), rfl, ?_⟩
  cases f with
  | none =>
    by_cases h1 : low ≤ high <;> by_cases h3 : inn ks st (low + high) = inn ks st (low + high + 1) <;>
      simp [fb1__law_great_fault, gcl, optP, flatE, Vx.flatB, frzE, frz, law_has_ok, ne_bl, look, h1, hm, h3, sz2, setC_eq, pairD, h5]
  | some p =>
    by_cases h1 : low ≤ high <;> by_cases h4 : low + high < p.1 + p.2 <;> by_cases h3 : inn ks st (low + high) = inn ks st (low + high + 1) <;>
      simp [fb1__law_great_fault, gcl, optP, flatE, Vx.flatB, frzE, frz, law_has_ok, ne_bl, look, h1, hm, h3, h4, sz2, setC_eq, pair0, pair1, isNon_pair, h5] <;> simp [pairD]
theorem great_row {ks : List Int} {st : Option Int} {f : Option (Int × Int)} {low m : Int} {c4 c5 : Cell} (h4 : loose c4) (h5 : loose c5) (hm : ∀ high ∈ isort ks, low + high ≤ m) :
    ∃ c c', loose c ∧ loose c' ∧ fb2__law_great_fault (gcl ks st f (.sh (.int low)) c4 c5) = .nx (gcl ks st ((isort ks).foldl (fun f high => look ks st m f low high) f) (.sh (.int low)) c c') := by
  obtain ⟨ρ', h1, c, c', hc, hc', h2⟩ := forL_rel (f := fun d ρ => setC ρ 4 (.sh d)) (body := fb1__law_great_fault) (R := fun (f : Option (Int × Int)) ρ => ∃ c c', loose c ∧ loose c' ∧ ρ = gcl ks st f (.sh (.int low)) c c') (step := stepI fun f high => look ks st m f low high) (ds := (isort ks).map .int) (s := f) ⟨c4, c5, h4, h5, rfl⟩ (fun d hd f ρ hI => by
    obtain ⟨c, c', hc, hc', rfl⟩ := hI
    obtain ⟨high, hh, rfl⟩ := List.mem_map.mp hd
    obtain ⟨c2, hc2, e⟩ := great_body (ks := ks) (st := st) (f := f) (low := low) (high := high) hc' (hm high hh)
    exact ⟨gcl ks st f (.sh (.int low)) (.sh (.int high)) c', _, setC_eq (by exact hc), e, .sh (.int high), c2, rfl, hc2, rfl⟩)
  rw [foldl_stepI] at h2
  refine ⟨c, c', hc, hc', ?_⟩
  rw [← h2, ← h1]
  unfold fb2__law_great_fault
  have e : frzI [] (fun ρ => (((getV ρ 0).bind fun d => (Out.ok []).bind fun ds => .ok (d :: ds)).bind (one1 fun d => (Out.ofOpt (kvsD d)).bind fun kvs => (Out.ofOpt (intKeys kvs)).bind fun ns => .ok (.lst ((isort ns).map .int)))).bind fun d => (itemsL d).bind .ok) (gcl ks st f (.sh (.int low)) c4 c5) = .ok ((isort ks).map .int) (gcl ks st f (.sh (.int low)) c4 c5) := by
    have k1 : kvsD (.dF (kz ks)) = some (kz ks) := rfl
    have i1 : itemsL (.lst ((isort ks).map .int)) = .ok ((isort ks).map .int) := rfl
    unfold frzI
    rw [show viewS (frz [] (gcl ks st f (.sh (.int low)) c4 c5)) = some (.dF (kz ks)) :: viewS (frz [] [.sh (optD st), .sh (optP f), .sh (.int low), c4, c5]) from rfl]
    simp only [getV_cons0, Out.bind_ok, one1, k1, Out.ofOpt, intKeys_kz, i1]
    rfl
  rw [e, Res.fin_ok]
theorem great_scan {ks : List Int} {st : Option Int} {m : Int} (hm : ∀ low ∈ ks, ∀ high ∈ ks, low + high ≤ m) : F__law_great_fault [.dF (kz ks), optD st] = .ok (optP (scan ks st m (isort ks) (isort ks) none)) := by
  have mem : ∀ {n}, n ∈ isort ks → n ∈ ks := fun h => (isort_perm ks).mem_iff.mp h
  obtain ⟨ρ', h1, c3, c4, c5, h3, h4, h5, h2⟩ := forL_rel (f := fun d ρ => setC ρ 3 (.sh d)) (body := fb2__law_great_fault) (R := fun (f : Option (Int × Int)) ρ => ∃ c3 c4 c5, loose c3 ∧ loose c4 ∧ loose c5 ∧ ρ = gcl ks st f c3 c4 c5) (step := stepI fun f low => (isort ks).foldl (fun f high => look ks st m f low high) f) (ds := (isort ks).map .int) (s := none) (ρ := gcl ks st none .no .no .no) ⟨.no, .no, .no, rfl, rfl, rfl, rfl⟩ (fun d hd f ρ hI => by
    obtain ⟨c3, c4, c5, h3, h4, h5, rfl⟩ := hI
    obtain ⟨low, hh, rfl⟩ := List.mem_map.mp hd
    obtain ⟨c, c', hc, hc', e⟩ := great_row (ks := ks) (st := st) (f := f) (low := low) (m := m) h4 h5 (fun high h => hm low (mem hh) high (mem h))
    exact ⟨gcl ks st f (.sh (.int low)) c4 c5, _, setC_eq (by exact h3), e, .sh (.int low), c, c', rfl, hc, hc', rfl⟩)
  rw [foldl_stepI] at h2
  unfold F__law_great_fault M__law_great_fault
  have e1 : flatE (fun ρ => Out.ok D.non) (cells [.dF (kz ks), optD st] 6) = .ok .non (cells [.dF (kz ks), optD st] 6) := rfl
  have e : frzI [] (fun ρ => (((getV ρ 0).bind fun d => (Out.ok []).bind fun ds => .ok (d :: ds)).bind (one1 fun d => (Out.ofOpt (kvsD d)).bind fun kvs => (Out.ofOpt (intKeys kvs)).bind fun ns => .ok (.lst ((isort ns).map .int)))).bind fun d => (itemsL d).bind .ok) (gcl ks st none .no .no .no) = .ok ((isort ks).map .int) (gcl ks st none .no .no .no) := by
    have k1 : kvsD (.dF (kz ks)) = some (kz ks) := rfl
    have i1 : itemsL (.lst ((isort ks).map .int)) = .ok ((isort ks).map .int) := rfl
    unfold frzI
    rw [show viewS (frz [] (gcl ks st none .no .no .no)) = some (.dF (kz ks)) :: viewS (frz [] [.sh (optD st), .sh (optP none), .no, .no, .no]) from rfl]
    simp only [getV_cons0, Out.bind_ok, one1, k1, Out.ofOpt, intKeys_kz, i1]
    rfl
  rw [e1, Res.fin_ok, setC_eq (by rfl), orStuck_some, SRes.then_nx, show (cells [.dF (kz ks), optD st] 6).set 2 (.sh .non) = gcl ks st none .no .no .no from rfl, e, Res.fin_ok, h1, h2]
  rfl
end Ma
end
section
set_option maxRecDepth 100000
set_option maxHeartbeats 1000000
set_option exponentiation.threshold 1000
namespace Ma
open PySem PySem.Spec L2 Vx Dv Ev
open Out (guard)
def richK (ks : List Int) (low high : Int) : Bool := decide (low + high ∈ ks) || decide (low + high + 1 ∈ ks)
def greatR (ks : List Int) : Bool := ks.any fun low => ks.any (richK ks low)
theorem rich_list (ks : List Int) (low : Int) (hz : ks.length ≤ 1000) : lc1__law_great_rich [some (.dF (kz ks)), some (.int low), none] = .ok (.lst ((ks.filter (richK ks low)).map .int)) := by
  refine lcP_filter (ns := ks) (p := richK ks low) (by simp [keys_kz]) (Nat.le_trans hz (Nat.le_trans (by decide) szl)) fun n hn => ⟨[some (.dF (kz ks)), some (.int low), some (.int n)], rfl, ?_, fun _ => rfl⟩
  by_cases h : low + n ∈ ks <;> simp [ind_kz, richK, h]
theorem filter_any {p : Int → Bool} : ∀ ks : List Int, (!decide (ks.filter p = [])) = ks.any p
  | [] => rfl
  | k :: ks => by
    rw [List.filter_cons, List.any_cons, ← filter_any ks]
    cases h : p k <;> simp
theorem rich_body (ks : List Int) (low : Int) (hz : ks.length ≤ 1000) : fb2__law_great_rich [.sh (.dF (kz ks)), .sh (.int low), .no] = (if ks.any (richK ks low) = true then .rt (.bl true) [.sh (.dF (kz ks)), .sh (.int low), .no] else .nx [.sh (.dF (kz ks)), .sh (.int low), .no]) := by
  have e := rich_list ks low hz
  have e2 := ne_ints (ks.filter (richK ks low)) []
  rw [List.map_nil, filter_any] at e2
  have sz0 : (0 : Nat) ≤ sizeLine := Nat.zero_le _
  have ef : Vx.flatB (fun ρ => ((lc1__law_great_rich ρ).bind fun d => ((Out.ok []).bind fun ds => guard (decide (ds.length ≤ sizeLine)) (.ok (.lst ds))).bind fun e => neD d e).bind toB) [.sh (.dF (kz ks)), .sh (.int low), .no] = .ok (ks.any (richK ks low)) [.sh (.dF (kz ks)), .sh (.int low), .no] := by
    refine flatB_ok ?_
    simp only [viewA_cons, viewA_nil, all_sh, all_no, e, Out.bind_ok, List.length_nil, Out.guard_of (decide_eq_true sz0), e2, toB_bl]
  unfold fb2__law_great_rich
  rw [ef, Res.fin_ok]
  rfl
theorem great_rich_ok (ks : List Int) (hz : ks.length ≤ 1000) : F__law_great_rich [.dF (kz ks)] = .ok (.bl (greatR ks)) := by
  obtain ⟨ρ', _, h2⟩ := forL_find (f := fun d ρ => setC ρ 1 (.sh d)) (body := fb2__law_great_rich) (I := fun ρ => ∃ c, loose c ∧ ρ = [.sh (.dF (kz ks)), c, .no]) (p := fun d => match d with | .int low => (if ks.any (richK ks low) = true then some (D.bl true) else none) | _ => none)
    (ds := ks.map .int) (ρ := [.sh (.dF (kz ks)), .no, .no]) ⟨.no, rfl, rfl⟩ (fun d hd ρ hI => by
      obtain ⟨c, hc, rfl⟩ := hI
      obtain ⟨low, _, rfl⟩ := List.mem_map.mp hd
      refine ⟨_, [.sh (.dF (kz ks)), .sh (.int low), .no], setC_eq (by exact hc), ⟨.sh (.int low), rfl, rfl⟩, ?_⟩
      refine Eq.trans (rich_body ks low hz) ?_
      by_cases q : ks.any (richK ks low) = true
      · simp only [q, if_true]
      · simp only [q, if_false, Bool.false_eq_true])
  rw [findSome_map (q := fun low => if ks.any (richK ks low) = true then some (D.bl true) else none) (fun n => rfl), findSome_any] at h2
  unfold F__law_great_rich M__law_great_rich
  have e : frzI [] (fun ρ => (getV ρ 0).bind keysD) (cells [.dF (kz ks)] 3) = .ok (ks.map .int) (cells [.dF (kz ks)] 3) := by
    unfold frzI
    rw [show viewS (frz [] (cells [.dF (kz ks)] 3)) = [some (.dF (kz ks)), none, none] from rfl]
    simp only [getV_cons0, Out.bind_ok, keys_kz]
    rfl
  rw [e, Res.fin_ok, show cells [.dF (kz ks)] 3 = [.sh (.dF (kz ks)), .no, .no] from rfl, h2]
  unfold greatR
  by_cases q : (ks.any fun low => ks.any (richK ks low)) = true
  · simp only [q, if_true, SRes.then_rt]
    rfl
  · simp only [q, if_false, Bool.false_eq_true, SRes.then_nx]
    simp [flatE, outP]
theorem lean_great {gs ks : List Int} (h : ∀ n, n ∈ gs ↔ n ∈ ks) : leanP (settle (keysOf none gs) none).1 none = !greatR ks := by
  have mk : ∀ n, n ∈ isort (keysOf none gs) ↔ n ∈ ks := fun n => by
    rw [(isort_perm _).mem_iff, mem_keysOf, ← h]
    exact ⟨fun z => z.1, fun z => ⟨z, rfl⟩⟩
  have iK : ∀ n, inn (keysOf none gs) none n = decide (n ∈ ks) := fun n => by
    rw [Bool.eq_iff_iff, inn_iff, decide_eq_true_eq, mem_keysOf, ← h]
    constructor
    · rintro (⟨a, _⟩ | ⟨s, z, _⟩)
      · exact a
      · cases z
    · exact fun a => .inl ⟨a, rfl⟩
  have rc : ∀ a b, rich (keysOf none gs) none a b = richK ks a b := fun a b => by
    unfold rich richK
    rw [iK, iK]
  have ra : ∀ low, richAny (keysOf none gs) none low = ks.any (richK ks low) := fun low => by
    unfold richAny
    rw [filter_any, Bool.eq_iff_iff, List.any_eq_true, List.any_eq_true]
    constructor
    · rintro ⟨x, hx, r⟩
      exact ⟨x, (mk x).mp hx, by rw [← rc]; exact r⟩
    · rintro ⟨x, hx, r⟩
      exact ⟨x, (mk x).mpr hx, by rw [rc]; exact r⟩
  show decide ((isort (keysOf none gs)).filter (richAny (keysOf none gs) none) = []) = _
  have fa := filter_any (p := richAny (keysOf none gs) none) (isort (keysOf none gs))
  have e2 : (isort (keysOf none gs)).any (richAny (keysOf none gs) none) = greatR ks := by
    unfold greatR
    rw [Bool.eq_iff_iff, List.any_eq_true, List.any_eq_true]
    constructor
    · rintro ⟨x, hx, r⟩
      exact ⟨x, (mk x).mp hx, by rw [← ra]; exact r⟩
    · rintro ⟨x, hx, r⟩
      exact ⟨x, (mk x).mpr hx, by rw [ra]; exact r⟩
  rw [e2] at fa
  rw [← fa, Bool.not_not]
/-- a search over fewer numbers that finds the least fault all the same -/
theorem scan_least2 {ks : List Int} {st : Option Int} {m : Int} {ns : List Int} (hp : ns.Pairwise (· ≤ ·)) (h1 : ∀ n ∈ ns, 1 ≤ n ∧ inn ks st n = true) (h2 : ∀ low high, Bad (inn ks st) m low high → low ∈ ns ∧ high ∈ ns) : Least (inn ks st) m (scan ks st m ns ns none) := by
  have h := scan_best (ks := ks) (st := st) (m := m) (ms := ns) (ns := ns) (seen := []) (f := none) (fun _ z => by cases z) hp (fun _ z => by cases z)
  rw [List.nil_append] at h
  have mem : ∀ {p : Int × Int}, p ∈ (ns.flatMap fun l => ns.map fun h => (l, h)) ↔ p.1 ∈ ns ∧ p.2 ∈ ns := fun {p} => by
    rw [List.mem_flatMap]
    constructor
    · rintro ⟨l, hl, z⟩
      obtain ⟨x, hx, rfl⟩ := List.mem_map.mp z
      exact ⟨hl, hx⟩
    · rintro ⟨a, b⟩
      exact ⟨p.1, a, List.mem_map.mpr ⟨p.2, b, rfl⟩⟩
  have bg : ∀ {low high}, Bad (inn ks st) m low high → ((low, high) ∈ (ns.flatMap fun l => ns.map fun h => (l, h)) ∧ Good (inn ks st) m (low, high)) := fun {low high} b => by
    obtain ⟨k1, k2⟩ := h2 low high b
    obtain ⟨b1, b2, b3, b4, b5, b6⟩ := b
    exact ⟨mem.mpr ⟨k1, k2⟩, b2, b3, b6⟩
  cases q : scan ks st m ns ns none with
  | none =>
    rw [q] at h
    exact fun low high b => h _ (bg b).1 (bg b).2
  | some p =>
    rw [q] at h
    obtain ⟨h1', h2', h3⟩ := h
    obtain ⟨m1, m2⟩ := mem.mp h1'
    obtain ⟨a1, a2⟩ := h1 p.1 m1
    obtain ⟨_, a3⟩ := h1 p.2 m2
    exact ⟨⟨a1, h2'.1, h2'.2.1, a2, a3, h2'.2.2⟩, fun low high b => h3 (low, high) (bg b).1 (bg b).2⟩
def extra : Option Int → List Int
  | none => []
  | some s => [s]
def hold (ns : List Int) (st : Option Int) : List Int := (ns ++ extra st).foldl addK []
theorem mem_hold {ns : List Int} {st : Option Int} {n : Int} : n ∈ hold ns st ↔ n ∈ ns ∨ st = some n := by
  unfold hold
  rw [mem_foldl_addK]
  cases st with
  | none => simp [extra]
  | some s => simp [extra, eq_comm]
theorem inn_hold (ns : List Int) (st : Option Int) (m : Int) : inn (hold ns st) st m = inn ns st m := by
  rw [Bool.eq_iff_iff, inn_iff, inn_iff, mem_hold]
  constructor
  · rintro ((h | h) | h)
    · exact .inl h
    · exact .inr ⟨m, h, Int.le_refl m⟩
    · exact .inr h
  · rintro (h | h)
    · exact .inl (.inl h)
    · exact .inr h
def greatF (ns : List Int) (st : Option Int) : Option (Int × Int) := scan (hold ns st) st 2000 (isort (hold ns st)) (isort (hold ns st)) none
theorem hold_one {ns : List Int} {st : Option Int} (h : Told ns st) {n : Int} (hn : n ∈ hold ns st) : 1 ≤ n ∧ n ≤ 1000 := by
  rcases mem_hold.mp hn with q | q
  · exact h.num n q
  · exact h.sta n q
theorem greatF_least {ns : List Int} {st : Option Int} (h : Told ns st) : Least (inn ns st) 2000 (greatF ns st) := by
  refine Least.congr ?_ (inn_hold ns st)
  refine scan_least2 (isort_sorted _) (fun n hn => ?_) fun low high b => ?_
  · have hn := (isort_perm _).mem_iff.mp hn
    exact ⟨(hold_one h hn).1, by rw [inn_iff]; exact .inl hn⟩
  · have key : ∀ x y, inn (hold ns st) st x = true → 1 ≤ y → (inn (hold ns st) st (x + y) ≠ inn (hold ns st) st (x + y + 1)) → x ∈ isort (hold ns st) := fun x y hx hy hp => by
      rw [(isort_perm _).mem_iff]
      rcases inn_iff.mp hx with q | ⟨s, hs, q⟩
      · exact q
      · exfalso
        refine hp ?_
        have a : inn (hold ns st) st (x + y) = true := inn_iff.mpr (.inr ⟨s, hs, by omega⟩)
        have c : inn (hold ns st) st (x + y + 1) = true := inn_iff.mpr (.inr ⟨s, hs, by omega⟩)
        rw [a, c]
    have o := b.o
    have l := b.l
    refine ⟨key low high b.il (by omega) b.p, key high low b.ih o ?_⟩
    rw [show high + low = low + high by omega]
    exact b.p
theorem great_fault_ok {ns : List Int} {st : Option Int} (h : Told ns st) : F__law_great_fault [.dF (kz (hold ns st)), optD st] = .ok (optP (greatF ns st)) :=
  great_scan fun low hl high hh => by
    have := hold_one h hl
    have := hold_one h hh
    omega
end Ma
end
section
set_option maxRecDepth 100000
set_option maxHeartbeats 1000000
set_option exponentiation.threshold 1000
namespace Ma
open PySem PySem.Spec L2 Vx Dv Ev
open Out (guard)
theorem extra_ok {A B C E F G H I : Option D} {ns : List Int} (st : Option Int) : lc1__law_great_right [A, some (told ns st), B, C, E, F, G, H, I] = .ok (.lst ((extra st).map .int)) := by
  have i1 : ixD (told ns st) (.int 1) = .ok (optD st) := rfl
  cases st with
  | none =>
    have er : rng1 [.int 0] = .ok [] := rfl
    have e0 : intD (.bl false) = .ok (.int 0) := rfl
    unfold lc1__law_great_right lcP compD
    simp [i1, optD, one1, e0, er, compL, extra]
  | some s =>
    have er : rng1 [.int 1] = .ok [.int 0] := rfl
    have e0 : intD (.bl true) = .ok (.int 1) := rfl
    have sz1 : (1 : Nat) ≤ sizeLine := Nat.le_trans (by decide) szl
    unfold lc1__law_great_right lcP compD
    simp [i1, optD, one1, e0, er, compL, compF, wipeV, extra, sz1]
theorem pairs_ok {A B C E F G H I : Option D} {ns : List Int} {st : Option Int} (hl : ns.length ≤ 200) : lc2__law_great_right [A, some (told ns st), B, C, E, F, G, H, I] = .ok (.lst ((ns ++ extra st).map fun n => D.tup [.int n, .int 0])) := by
  have sz2 : (2 : Nat) ≤ sizeLine := Nat.le_trans (by decide) szl
  have i0 : ixD (told ns st) (.int 0) = .ok (.lst (ns.map .int)) := rfl
  have le : (extra st).length ≤ 1 := by cases st <;> simp [extra]
  have e1 := extra_ok (A := A) (B := B) (C := C) (E := E) (F := F) (G := G) (H := H) (I := I) (ns := ns) st
  have e2 := add_lst (xs := ns) (ys := extra st) (Nat.le_trans (by omega) szl)
  have e3 : itemsL (.lst ((ns ++ extra st).map .int)) = .ok ((ns ++ extra st).map .int) := rfl
  have hz : ((ns ++ extra st).map D.int).length ≤ sizeLine := by rw [List.length_map, List.length_append]; exact Nat.le_trans (by omega) szl
  have e := lcP_ok (mi := (fun ρ => (((getV ρ 1).bind fun d => (Out.ok (D.int 0)).bind fun e => ixD d e).bind fun d => (lc1__law_great_right ρ).bind fun e => addD d e).bind fun d => (itemsL d).bind .ok)) (fg := (fun (d : D) (ρ : PEnv) => Out.ok (ρ.set 7 (some d)))) (mt := (fun ρ => .ok true)) (me := (fun ρ => ((getV ρ 7).bind fun d => ((Out.ok (D.int 0)).bind fun d => (Out.ok []).bind fun ds => .ok (d :: ds)).bind fun ds => .ok (d :: ds)).bind fun ds => guard (decide (ds.length ≤ sizeLine)) (.ok (.tup ds)))) (vs := [7]) (ρ := [A, some (told ns st), B, C, E, F, G, H, I]) (ds := (ns ++ extra st).map .int) (g := fun d => match d with | .int n => some (D.tup [.int n, .int 0]) | _ => none) (by simp only [getV_succ, getV_cons0, Out.bind_ok, i0, e1, e2, e3]) hz (fun d hd => by
    obtain ⟨n, _, rfl⟩ := List.mem_map.mp hd
    simp [compF, wipeV, sz2])
  refine Eq.trans e ?_
  generalize ns ++ extra st = l
  congr 2
  induction l with
  | nil => rfl
  | cons n l ih => rw [List.map_cons, List.filterMap_cons]; simp only []; rw [ih]; rfl
def pcells (G T H O : D) (due : Option (Int × Int)) (rich : Bool) : Vx.Env := [.io G, .sh T, .sh H, .sh O, .sh (optP due), .sh (.bl rich), .no, .no, .no]
theorem gr_2 {G : D} {ns : List Int} {st : Option Int} (h : Told ns st) : (fun ρ : Vx.Env => (frzE [] (fun ρ => (((lc2__law_great_right ρ).bind fun d => (Out.ok []).bind fun ds => .ok (d :: ds)).bind (one1 fun d => (itemsL d).bind fun ds => (Out.ofOpt (pairsD ds)).bind fun kvs => .ok (.dK (mergeD [] kvs)))).bind lockD) ρ).fin fun d ρ => orStuck (setC ρ 2 (.sh d)) .nx) [.io G, .sh (told ns st), .no, .no, .no, .no, .no, .no, .no] = .nx [.io G, .sh (told ns st), .sh (.dF (kz (hold ns st))), .no, .no, .no, .no, .no, .no] := by
  have e1 := pairs_ok (A := none) (B := none) (C := none) (E := none) (F := none) (G := none) (H := none) (I := none) (st := st) h.len
  have e2 : itemsL (.lst ((ns ++ extra st).map fun n => D.tup [.int n, .int 0])) = .ok ((ns ++ extra st).map fun n => D.tup [.int n, .int 0]) := rfl
  have e3 := pairs_kz (ns ++ extra st)
  have e4 := merge_kz (ns ++ extra st) []
  rw [show (kz [] : List (Key × D)) = [] from rfl] at e4
  rw [show (ns ++ extra st).foldl addK [] = hold ns st from rfl] at e4
  have ef : frzE [] (fun ρ => (((lc2__law_great_right ρ).bind fun d => (Out.ok []).bind fun ds => .ok (d :: ds)).bind (one1 fun d => (itemsL d).bind fun ds => (Out.ofOpt (pairsD ds)).bind fun kvs => .ok (.dK (mergeD [] kvs)))).bind lockD) [.io G, .sh (told ns st), .no, .no, .no, .no, .no, .no, .no] = .ok (.dF (kz (hold ns st))) [.io G, .sh (told ns st), .no, .no, .no, .no, .no, .no, .no] := by
    unfold frzE
    rw [show viewS (frz [] [.io G, .sh (told ns st), .no, .no, .no, .no, .no, .no, .no]) = [none, some (told ns st), none, none, none, none, none, none, none] from rfl]
    simp only [e1, Out.bind_ok, one1, e2, e3, Out.ofOpt, e4]
    rfl
  show (frzE [] _ _).fin _ = _
  rw [ef, Res.fin_ok, setC_eq (by rfl)]
  rfl
theorem gr_3 {G T H O : D} {ns : List Int} {st : Option Int} {due : Option (Int × Int)} {rich : Bool} (i0 : ixD T (.int 0) = .ok (.lst (ns.map .int))) (i1 : ixD T (.int 1) = .ok (optD st)) (mk : makeD 0 F_Lets_init [] [.lst ((ns.map D.int).reverse), optD st] = .ok O) (hf : F__law_great_fault [H, optD st] = .ok (optP due)) (hr : F__law_great_rich [H] = .ok (.bl rich)) :
    (fun ρ : Vx.Env => (frzE [] (fun ρ => ((((((getV ρ 1).bind fun d => (Out.ok (D.int 0)).bind fun e => ixD d e).bind fun d => (itemsL d).bind fun ds => .ok (.lst ds.reverse)).bind fun d => (((getV ρ 1).bind fun d => (Out.ok (D.int 1)).bind fun e => ixD d e).bind fun d => (Out.ok []).bind fun ds => .ok (d :: ds)).bind fun ds => .ok (d :: ds)).bind fun ds => guard (decide (ds.length + ([] : List D).length + 1 = 3)) (makeD 0 F_Lets_init [] ds)).bind fun d => ((((getV ρ 2).bind fun d => (((getV ρ 1).bind fun d => (Out.ok (D.int 1)).bind fun e => ixD d e).bind fun d => (Out.ok []).bind fun ds => .ok (d :: ds)).bind fun ds => .ok (d :: ds)).bind fun ds => guard (decide (ds.length = 2)) (F__law_great_fault ds)).bind fun d => ((((getV ρ 2).bind fun d => (Out.ok []).bind fun ds => .ok (d :: ds)).bind fun ds => guard (decide (ds.length = 1)) (F__law_great_rich ds)).bind fun d => (Out.ok []).bind fun ds => .ok (d :: ds)).bind fun ds => .ok (d :: ds)).bind fun ds => .ok (d :: ds)).bind fun ds => guard (decide (ds.length ≤ sizeLine)) (.ok (.tup ds))) ρ).fin fun d ρ => orStuck ((fun d ρ => match d with | .tup ds => if ds.length = 3 then (fun ds ρ => match ds with | d :: ds => ((fun d ρ => setC ρ 3 (.sh d)) d ρ).bind fun ρ => (fun ds ρ => match ds with | d :: ds => ((fun d ρ => setC ρ 4 (.sh d)) d ρ).bind fun ρ => (fun ds ρ => match ds with | d :: ds => ((fun d ρ => setC ρ 5 (.sh d)) d ρ).bind fun ρ => (fun ds ρ => match ds with | [] => some ρ | _ => none) ds ρ | [] => none) ds ρ | [] => none) ds ρ | [] => none) ds ρ else none | _ => none) d ρ) .nx) [.io G, .sh T, .sh H, .no, .no, .no, .no, .no, .no] = .nx (pcells G T H O due rich) := by
  have sz3 : (3 : Nat) ≤ sizeLine := Nat.le_trans (by decide) szl
  have e2 : itemsL (.lst (ns.map .int)) = .ok (ns.map .int) := rfl
  have ef : frzE [] (fun ρ => ((((((getV ρ 1).bind fun d => (Out.ok (D.int 0)).bind fun e => ixD d e).bind fun d => (itemsL d).bind fun ds => .ok (.lst ds.reverse)).bind fun d => (((getV ρ 1).bind fun d => (Out.ok (D.int 1)).bind fun e => ixD d e).bind fun d => (Out.ok []).bind fun ds => .ok (d :: ds)).bind fun ds => .ok (d :: ds)).bind fun ds => guard (decide (ds.length + ([] : List D).length + 1 = 3)) (makeD 0 F_Lets_init [] ds)).bind fun d => ((((getV ρ 2).bind fun d => (((getV ρ 1).bind fun d => (Out.ok (D.int 1)).bind fun e => ixD d e).bind fun d => (Out.ok []).bind fun ds => .ok (d :: ds)).bind fun ds => .ok (d :: ds)).bind fun ds => guard (decide (ds.length = 2)) (F__law_great_fault ds)).bind fun d => ((((getV ρ 2).bind fun d => (Out.ok []).bind fun ds => .ok (d :: ds)).bind fun ds => guard (decide (ds.length = 1)) (F__law_great_rich ds)).bind fun d => (Out.ok []).bind fun ds => .ok (d :: ds)).bind fun ds => .ok (d :: ds)).bind fun ds => .ok (d :: ds)).bind fun ds => guard (decide (ds.length ≤ sizeLine)) (.ok (.tup ds))) [.io G, .sh T, .sh H, .no, .no, .no, .no, .no, .no] = .ok (.tup [O, optP due, .bl rich]) [.io G, .sh T, .sh H, .no, .no, .no, .no, .no, .no] := by
    unfold frzE
    rw [show viewS (frz [] [.io G, .sh T, .sh H, .no, .no, .no, .no, .no, .no]) = [none, some T, some H, none, none, none, none, none, none] from rfl]
    simp only [getV_succ, getV_cons0, Out.bind_ok, i0, i1, e2, List.length_cons, List.length_nil, Nat.zero_add, Nat.reduceAdd, decide_true, Out.guard_true, mk, hf, hr, Out.guard_of (decide_eq_true sz3)]
    rfl
  show (frzE [] _ _).fin _ = _
  rw [ef, Res.fin_ok]
  simp [setC_eq, pcells]
theorem gr_4 {G T H O : D} {st : Option Int} {due : Option (Int × Int)} {rich le : Bool} (r : Right O due le) (i1 : ixD T (.int 1) = .ok (optD st)) (hd : SmallP due) (hle : le = (st.isNone && !rich)) :
    (fun ρ : Vx.Env => (Vx.flatB (fun ρ => (((((((getV ρ 3).bind fun d => (Out.ok []).bind fun ds => .ok (d :: ds)).bind fun ds => guard (decide (ds.length = 1)) (F_fault ds)).bind fun d => (Out.ok []).bind fun ds => .ok (d :: ds)).bind (one1 reprD)).bind fun d => (((getV ρ 4).bind fun d => (Out.ok []).bind fun ds => .ok (d :: ds)).bind (one1 reprD)).bind fun e => neD d e).bind toB).bind fun c => if c = true then .ok true else ((((((((getV ρ 3).bind fun d => (Out.ok []).bind fun ds => .ok (d :: ds)).bind fun ds => guard (decide (ds.length = 1)) (F_good ds)).bind fun d => (Out.ok []).bind fun ds => .ok (d :: ds)).bind (one1 reprD)).bind fun d => ((((getV ρ 4).bind fun d => .ok (.bl (Vx.isNon d))).bind fun d => (Out.ok []).bind fun ds => .ok (d :: ds)).bind (one1 reprD)).bind fun e => neD d e).bind toB).bind fun c => if c = true then .ok true else (((((((getV ρ 3).bind fun d => (Out.ok []).bind fun ds => .ok (d :: ds)).bind fun ds => guard (decide (ds.length = 1)) (F_lean ds)).bind fun d => (Out.ok []).bind fun ds => .ok (d :: ds)).bind (one1 reprD)).bind fun d => (((((((getV ρ 1).bind fun d => (Out.ok (D.int 1)).bind fun e => ixD d e).bind fun d => .ok (.bl (Vx.isNon d))).bind toB).bind fun c => if c = true then (((getV ρ 5).bind toB).bind fun c => .ok (.bl (!c))) else .ok (.bl false)).bind fun d => (Out.ok []).bind fun ds => .ok (d :: ds)).bind (one1 reprD)).bind fun e => neD d e).bind toB))) ρ).fin fun b ρ => if b = true then ((flatE (fun ρ => Out.ok (D.bl false)) ρ).fin fun d ρ => .rt d ρ) else (.nx ρ)) (pcells G T H O due rich) = .nx (pcells G T H O due rich) := by
  have h1 := r.fa
  have h2 := r.go
  have h3 := r.ln
  obtain ⟨s1, hs1, hn1⟩ := repD_opt hd
  obtain ⟨s2, hs2, hn2⟩ := repD_bl due.isNone
  obtain ⟨s3, hs3, hn3⟩ := repD_bl le
  have e : Vx.flatB (fun ρ => (((((((getV ρ 3).bind fun d => (Out.ok []).bind fun ds => .ok (d :: ds)).bind fun ds => guard (decide (ds.length = 1)) (F_fault ds)).bind fun d => (Out.ok []).bind fun ds => .ok (d :: ds)).bind (one1 reprD)).bind fun d => (((getV ρ 4).bind fun d => (Out.ok []).bind fun ds => .ok (d :: ds)).bind (one1 reprD)).bind fun e => neD d e).bind toB).bind fun c => if c = true then .ok true else ((((((((getV ρ 3).bind fun d => (Out.ok []).bind fun ds => .ok (d :: ds)).bind fun ds => guard (decide (ds.length = 1)) (F_good ds)).bind fun d => (Out.ok []).bind fun ds => .ok (d :: ds)).bind (one1 reprD)).bind fun d => ((((getV ρ 4).bind fun d => .ok (.bl (Vx.isNon d))).bind fun d => (Out.ok []).bind fun ds => .ok (d :: ds)).bind (one1 reprD)).bind fun e => neD d e).bind toB).bind fun c => if c = true then .ok true else (((((((getV ρ 3).bind fun d => (Out.ok []).bind fun ds => .ok (d :: ds)).bind fun ds => guard (decide (ds.length = 1)) (F_lean ds)).bind fun d => (Out.ok []).bind fun ds => .ok (d :: ds)).bind (one1 reprD)).bind fun d => (((((((getV ρ 1).bind fun d => (Out.ok (D.int 1)).bind fun e => ixD d e).bind fun d => .ok (.bl (Vx.isNon d))).bind toB).bind fun c => if c = true then (((getV ρ 5).bind toB).bind fun c => .ok (.bl (!c))) else .ok (.bl false)).bind fun d => (Out.ok []).bind fun ds => .ok (d :: ds)).bind (one1 reprD)).bind fun e => neD d e).bind toB))) (pcells G T H O due rich) = .ok false (pcells G T H O due rich) := by
    refine flatB_ok ?_
    cases st with
    | none =>
      simp only [Option.isNone_none, Bool.true_and] at hle
      rw [hle] at h3 hs3
      simp [pcells, h1, h2, h3, i1, isNon_optP, one1, hs1, hn1, hs2, hn2, hs3, hn3, optD]
    | some s =>
      simp only [Option.isNone_some, Bool.false_and] at hle
      rw [hle] at h3 hs3
      simp [pcells, h1, h2, h3, i1, isNon_optP, one1, hs1, hn1, hs2, hn2, hs3, hn3, optD]
  show (Vx.flatB _ (pcells G T H O due rich)).fin _ = _
  rw [e, Res.fin_ok, if_neg (by decide)]
theorem gr_5n {G T H O : D} {rich le : Bool} (r : Right O none le) :
    (fun ρ : Vx.Env => (Vx.flatB (fun ρ => (getV ρ 4).bind fun d => .ok (Vx.isNon d)) ρ).fin fun b ρ => if b = true then ((flatE (fun ρ => (((((getV ρ 3).bind fun d => (Out.ok []).bind fun ds => .ok (d :: ds)).bind fun ds => guard (decide (ds.length = 1)) (F_holds_to ds)).bind fun d => .ok (.bl (Vx.isNon d))).bind toB).bind fun c => if c = true then ((((getV ρ 3).bind fun d => ((Out.ok (D.int 10000)).bind fun d => (Out.ok []).bind fun ds => .ok (d :: ds)).bind fun ds => .ok (d :: ds)).bind fun ds => guard (decide (ds.length = 2)) (F_good_to ds)).bind fun d => (Out.ok (D.bl true)).bind fun e => isBD d e) else .ok (.bl false)) ρ).fin fun d ρ => .rt d ρ) else (.nx ρ)) (pcells G T H O none rich) = .rt (.bl true) (pcells G T H O none rich) := by
  have h1 := r.ho
  have h2 := r.gt 10000 (by decide)
  simp only [holdsT, wished] at h1 h2
  have e3 : isBD (.bl true) (.bl true) = .ok (.bl true) := rfl
  simp [pcells, Vx.flatB, flatE, optP, h1, h2, e3]
theorem gr_5s {G T H O : D} {rich : Bool} {p : Int × Int} :
    (fun ρ : Vx.Env => (Vx.flatB (fun ρ => (getV ρ 4).bind fun d => .ok (Vx.isNon d)) ρ).fin fun b ρ => if b = true then ((flatE (fun ρ => (((((getV ρ 3).bind fun d => (Out.ok []).bind fun ds => .ok (d :: ds)).bind fun ds => guard (decide (ds.length = 1)) (F_holds_to ds)).bind fun d => .ok (.bl (Vx.isNon d))).bind toB).bind fun c => if c = true then ((((getV ρ 3).bind fun d => ((Out.ok (D.int 10000)).bind fun d => (Out.ok []).bind fun ds => .ok (d :: ds)).bind fun ds => .ok (d :: ds)).bind fun ds => guard (decide (ds.length = 2)) (F_good_to ds)).bind fun d => (Out.ok (D.bl true)).bind fun e => isBD d e) else .ok (.bl false)) ρ).fin fun d ρ => .rt d ρ) else (.nx ρ)) (pcells G T H O (some p) rich) = .nx (pcells G T H O (some p) rich) := by
  simp [pcells, Vx.flatB, flatE, optP, isNon_pair]
theorem gr_6 {G T H O : D} {rich le : Bool} {p : Int × Int} (r : Right O (some p) le) (hp : 0 ≤ p.1 + p.2 ∧ p.1 + p.2 ≤ 9000) :
    (fun ρ : Vx.Env => (flatE (fun ρ => (((((((getV ρ 3).bind fun d => (Out.ok []).bind fun ds => .ok (d :: ds)).bind fun ds => guard (decide (ds.length = 1)) (F_holds_to ds)).bind fun d => (Out.ok []).bind fun ds => .ok (d :: ds)).bind (one1 reprD)).bind fun d => ((((((getV ρ 4).bind fun d => (Out.ok (D.int 0)).bind fun e => ixD d e).bind fun d => ((getV ρ 4).bind fun d => (Out.ok (D.int 1)).bind fun e => ixD d e).bind fun e => addD d e).bind fun d => (Out.ok (D.int 2)).bind fun e => addD d e).bind fun d => (Out.ok []).bind fun ds => .ok (d :: ds)).bind (one1 reprD)).bind fun e => eqD d e).bind toB).bind fun c => if c = true then ((lc3__law_great_right ρ).bind fun d => (((Out.ok (D.bl true)).bind fun d => ((Out.ok (D.bl false)).bind fun d => (Out.ok []).bind fun ds => .ok (d :: ds)).bind fun ds => .ok (d :: ds)).bind fun ds => guard (decide (ds.length ≤ sizeLine)) (.ok (.lst ds))).bind fun e => eqD d e) else .ok (.bl false)) ρ).fin fun d ρ => .rt d ρ) (pcells G T H O (some p) rich) = .rt (.bl true) (pcells G T H O (some p) rich) := by
  have h1 := r.ho
  have h2 := r.gt (p.1 + p.2 + 2) (by omega)
  have h3 := r.gt (p.1 + p.2 + 3) (by omega)
  simp only [holdsT, wished] at h1 h2 h3
  rw [decide_eq_true (by omega)] at h2
  rw [decide_eq_false (by omega)] at h3
  have sz2 : (2 : Nat) ≤ sizeLine := Nat.le_trans (by decide) szl
  obtain ⟨hs, ho⟩ := repr_int (n := p.1 + p.2 + 2) (by omega)
  generalize (py (.int (p.1 + p.2 + 2))).shown = s at hs ho
  have he : eqD (.str s) (.str s) = .ok (.bl true) := by
    unfold eqD
    rw [Out.guard_of (by rw [sh_str ho]; rfl)]
    show Out.ok (D.bl (s == s)) = _
    simp
  have el : lc3__law_great_right [some G, some T, some H, some O, some (optP (some p)), some (.bl rich), none, none, none] = .ok (.lst [.bl true, .bl false]) := by
    have i2 : itemsL (.lst [.int 2, .int 3]) = .ok [.int 2, .int 3] := rfl
    unfold lc3__law_great_right lcP compD
    simp [sz2, i2, compL, compF, wipeV, optP, pair0, pair1, h2, h3]
  have e2 := eq_bls [true, false] [true, false]
  have e3 : eqD (.lst [.bl true, .bl false]) (.lst [.bl true, .bl false]) = .ok (.bl true) := e2
  have ef : flatE (fun ρ => (((((((getV ρ 3).bind fun d => (Out.ok []).bind fun ds => .ok (d :: ds)).bind fun ds => guard (decide (ds.length = 1)) (F_holds_to ds)).bind fun d => (Out.ok []).bind fun ds => .ok (d :: ds)).bind (one1 reprD)).bind fun d => ((((((getV ρ 4).bind fun d => (Out.ok (D.int 0)).bind fun e => ixD d e).bind fun d => ((getV ρ 4).bind fun d => (Out.ok (D.int 1)).bind fun e => ixD d e).bind fun e => addD d e).bind fun d => (Out.ok (D.int 2)).bind fun e => addD d e).bind fun d => (Out.ok []).bind fun ds => .ok (d :: ds)).bind (one1 reprD)).bind fun e => eqD d e).bind toB).bind fun c => if c = true then ((lc3__law_great_right ρ).bind fun d => (((Out.ok (D.bl true)).bind fun d => ((Out.ok (D.bl false)).bind fun d => (Out.ok []).bind fun ds => .ok (d :: ds)).bind fun ds => .ok (d :: ds)).bind fun ds => guard (decide (ds.length ≤ sizeLine)) (.ok (.lst ds))).bind fun e => eqD d e) else .ok (.bl false)) (pcells G T H O (some p) rich) = .ok (.bl true) (pcells G T H O (some p) rich) := by
    refine flatE_ok ?_ rfl
    rw [show viewA (pcells G T H O (some p) rich) = [some G, some T, some H, some O, some (optP (some p)), some (.bl rich), none, none, none] from rfl]
    simp only [getV_succ, getV_cons0, Out.bind_ok, List.length_cons, List.length_nil, Nat.zero_add, Nat.reduceAdd, decide_true, Out.guard_true, h1, one1, hs, optP, pair0, pair1, add_ok, he, toB_bl, if_true, Out.guard_of (decide_eq_true sz2), e3]
    rw [show (some (pairD p)) = some (optP (some p)) from rfl, el, Out.bind_ok, e3]
  show (flatE _ (pcells G T H O (some p) rich)).fin _ = _
  rw [ef, Res.fin_ok]
end Ma
end
section
set_option maxRecDepth 100000
set_option maxHeartbeats 1000000
set_option exponentiation.threshold 1000
namespace Ma
open PySem PySem.Spec L2 Vx Dv Ev
open Out (guard)
theorem law_great_right_ok {a s c : Int} {n : Nat} (g : GenOk s c (n + 200)) : ∃ x, F__law_great_right (gen a s c) [] = .ok (.bl true, x) := by
  obtain ⟨ns, st, a1, c1, e0, g1, ht⟩ := law_great_set_ok (a := a) g
  have st1 : (fun ρ : Vx.Env => (if (getO ρ 0).isSome = true then (Res.ok [] ρ).bind fun ds ρ => callM 1 0 F__law_great_set ds ρ else .stuck).fin fun d ρ => orStuck (setC ρ 1 (.sh d)) .nx) [.io (gen a s c), .no, .no, .no, .no, .no, .no, .no, .no] = .nx [.io (gen a1 s c1), .sh (told ns st), .no, .no, .no, .no, .no, .no, .no] := by
    have ec : callM 1 0 F__law_great_set [] [.io (gen a s c), .no, .no, .no, .no, .no, .no, .no, .no] = .ok (told ns st) [.io (gen a1 s c1), .no, .no, .no, .no, .no, .no, .no, .no] := by
      unfold callM
      rw [getO_io]
      simp only [List.length_nil, e0, if_true]
      rfl
    generalize told ns st = T at ec
    simp [ec, setC_eq]
  have hmem : ∀ n, n ∈ ns.reverse ↔ n ∈ ns := fun n => List.mem_reverse
  have htr : Told ns.reverse st := ⟨by rw [List.length_reverse]; exact ht.len, fun n h => ht.num n ((hmem n).mp h), ht.sta⟩
  have i0 : ixD (told ns st) (.int 0) = .ok (.lst (ns.map .int)) := rfl
  have i1 : ixD (told ns st) (.int 1) = .ok (optD st) := rfl
  have mk : makeD 0 F_Lets_init [] [.lst ((ns.map D.int).reverse), optD st] = .ok (objD ns.reverse st) := by
    rw [← List.map_reverse]
    exact make_ok htr
  have b := settle_bound htr (m := 1000) (by decide) (fun n hn => (htr.num n hn).2) (fun s hs => (htr.sta s hs).2)
  have ld := greatF_least ht
  have ld2 : Least (inn ns.reverse st) 2000 (greatF ns st) := ld.congr fun m => (inn_mem st hmem m).symm
  have r := right_of htr (m := 2000) (by omega) ld2
  have hf := great_fault_ok ht
  have hlen : (hold ns st).length ≤ 1000 := by
    unfold hold
    have := len_foldK (ns ++ extra st) []
    have l1 : (extra st).length ≤ 1 := by cases st <;> simp [extra]
    have := ht.len
    rw [List.length_append] at *
    simp only [List.length_nil] at *
    omega
  have hr := great_rich_ok (hold ns st) hlen
  have hle : leanP (settle (keysOf st ns.reverse) st).1 (settle (keysOf st ns.reverse) st).2 = (st.isNone && !greatR (hold ns st)) := by
    cases st with
    | some s => rfl
    | none =>
      refine (lean_great (gs := ns.reverse) (ks := hold ns none) fun n => ?_).trans ?_
      · rw [hmem, mem_hold]
        constructor
        · exact fun h => .inl h
        · rintro (h | h)
          · exact h
          · cases h
      · rfl
  have hd := least_small (m := 2000) (by decide) ld
  generalize hR : greatR (hold ns st) = rch at hr hle
  have e2 := gr_2 (G := gen a1 s c1) ht
  have e3 := gr_3 (G := gen a1 s c1) i0 i1 mk hf hr
  have e4 := gr_4 (G := gen a1 s c1) (T := told ns st) (H := .dF (kz (hold ns st))) (rich := rch) r i1 hd hle
  refine ⟨gen a1 s c1, ?_⟩
  cases hdue : greatF ns st with
  | none =>
    rw [hdue] at r e3 e4
    have e5 := gr_5n (G := gen a1 s c1) (T := told ns st) (H := .dF (kz (hold ns st))) (rich := rch) r
    exact outM_nx st1 (outM_nx e2 (outM_nx e3 (outM_nx e4 (outM_rt e5))))
  | some p =>
    rw [hdue] at r e3 e4 ld
    have e5 := gr_5s (G := gen a1 s c1) (T := told ns st) (H := .dF (kz (hold ns st))) (O := objD ns.reverse st) (rich := rch) (p := p)
    have e6 := gr_6 (G := gen a1 s c1) (T := told ns st) (H := .dF (kz (hold ns st))) (rich := rch) r (by
      have b := ld.1
      have := b.o
      have := b.l
      have := b.m
      omega)
    exact outM_nx st1 (outM_nx e2 (outM_nx e3 (outM_nx e4 (outM_nx e5 (outM_end e6)))))
end Ma
end
section
set_option maxRecDepth 100000
set_option maxHeartbeats 1000000
set_option exponentiation.threshold 1000
namespace Ma
open PySem PySem.Spec L2 Vx Dv Ev
open Out (guard)
/-! ### the law's own rows -/
theorem obj_right {ns : List Int} {st : Option Int} {due : Option (Int × Int)} (h : Told ns st) (hl : Least (inn ns st) 2000 due) : Right (objD ns st) due (leanP (settle (keysOf st ns) st).1 (settle (keysOf st ns) st).2) := by
  have b := settle_bound h (m := 1000) (by decide) (fun n hn => (h.num n hn).2) (fun s hs => (h.sta s hs).2)
  exact right_of h (m := 2000) (by omega) hl
theorem told_dec {ns : List Int} {st : Option Int} (h1 : ns.length ≤ 200) (h2 : ∀ n ∈ ns, 1 ≤ n ∧ n ≤ 1000) (h3 : ∀ s, st = some s → 1 ≤ s ∧ s ≤ 1000) : Told ns st := ⟨h1, h2, h3⟩
theorem t12 : Told [1, 2] none := told_dec (by decide) (by decide) (fun s h => by cases h)
theorem t51 : Told [500, 1000] none := told_dec (by decide) (by decide) (fun s h => by cases h)
theorem t14s : Told [1] (some 4) := told_dec (by decide) (by decide) (fun s h => by cases h; decide)
theorem t37s : Told [3] (some 7) := told_dec (by decide) (by decide) (fun s h => by cases h; decide)
theorem t1s : Told [] (some 1) := told_dec (by decide) (fun n h => by cases h) (fun s h => by cases h; decide)
theorem tone {n : Int} (h : 1 ≤ n ∧ n ≤ 1000) : Told [n] none := told_dec (by simp) (fun m hm => by rw [List.mem_singleton.mp hm]; exact h) (fun s h => by cases h)
theorem t1000s : Told [] (some 1000) := told_dec (by decide) (fun n h => by cases h) (fun s h => by cases h; decide)
theorem tnil : Told [] none := told_dec (by decide) (fun n h => by cases h) (fun s h => by cases h)
theorem t14 : Told [1, 4] none := told_dec (by decide) (by decide) (fun s h => by cases h)
theorem trng {j : Int} (h : 101 ≤ j ∧ j ≤ 300) : Told (rng 101 j) none := told_dec (by rw [len_rng]; omega) (fun n hn => by have := mem_rng.mp hn; omega) (fun s h => by cases h)
theorem i_none {ns : List Int} {n : Int} : inn ns none n = true ↔ n ∈ ns := by
  rw [inn_iff]
  exact ⟨fun h => h.elim id fun ⟨s, z, _⟩ => (by cases z), fun h => .inl h⟩
theorem i_some {ns : List Int} {s n : Int} : inn ns (some s) n = true ↔ n ∈ ns ∨ s ≤ n := by
  rw [inn_iff]
  exact ⟨fun h => h.elim .inl fun ⟨t, z, q⟩ => (by cases z; exact .inr q), fun h => h.elim .inl fun q => .inr ⟨s, rfl, q⟩⟩
theorem l12 : Least (inn [1, 2] none) 2000 (some (1, 1)) := by
  refine ⟨⟨by decide +kernel, by decide +kernel, by decide +kernel, by decide +kernel, by decide +kernel, by decide +kernel⟩, fun low high b => ?_⟩
  have := b.o
  have := b.l
  show (1 : Int) + 1 < low + high ∨ ((1 : Int) + 1 = low + high ∧ (1 : Int) ≤ low)
  omega
theorem l51 : Least (inn [500, 1000] none) 2000 (some (500, 500)) := by
  refine ⟨⟨by decide +kernel, by decide +kernel, by decide +kernel, by decide +kernel, by decide +kernel, by decide +kernel⟩, fun low high b => ?_⟩
  have h1 := i_none.mp b.il
  have h2 := i_none.mp b.ih
  simp only [List.mem_cons, List.not_mem_nil, or_false] at h1 h2
  show (500 : Int) + 500 < low + high ∨ ((500 : Int) + 500 = low + high ∧ (500 : Int) ≤ low)
  omega
theorem l14s : Least (inn [1] (some 4)) 2000 none := by
  intro low high b
  have h1 := i_some.mp b.il
  have h2 := i_some.mp b.ih
  rw [List.mem_singleton] at h1 h2
  refine b.p ?_
  rw [Bool.eq_iff_iff, i_some, i_some, List.mem_singleton, List.mem_singleton]
  have := b.o
  omega
theorem l37s : Least (inn [3] (some 7)) 2000 (some (3, 3)) := by
  refine ⟨⟨by decide +kernel, by decide +kernel, by decide +kernel, by decide +kernel, by decide +kernel, by decide +kernel⟩, fun low high b => ?_⟩
  have h1 := i_some.mp b.il
  have h2 := i_some.mp b.ih
  rw [List.mem_singleton] at h1 h2
  show (3 : Int) + 3 < low + high ∨ ((3 : Int) + 3 = low + high ∧ (3 : Int) ≤ low)
  omega
theorem l1s : Least (inn [] (some 1)) 2000 none := by
  intro low high b
  refine b.p ?_
  have := b.o
  have := b.l
  rw [Bool.eq_iff_iff, i_some, i_some]
  simp only [List.not_mem_nil, false_or]
  omega
theorem l14 : Least (inn [1, 4] none) 2000 none := by
  intro low high b
  have h1 := i_none.mp b.il
  have h2 := i_none.mp b.ih
  simp only [List.mem_cons, List.not_mem_nil, or_false] at h1 h2
  refine b.p ?_
  rw [Bool.eq_iff_iff, i_none, i_none]
  simp only [List.mem_cons, List.not_mem_nil, or_false]
  omega
theorem lr202 : Least (inn (rng 101 202) none) 2000 none := by
  intro low high b
  have h1 := mem_rng.mp (i_none.mp b.il)
  have h2 := mem_rng.mp (i_none.mp b.ih)
  refine b.p ?_
  rw [Bool.eq_iff_iff, i_none, i_none, mem_rng, mem_rng]
  omega
theorem least_bad {i : Int → Bool} {m low high : Int} {f : Option (Int × Int)} (l : Least i m f) (b : Bad i m low high) : f.isNone = false := by
  cases f with
  | some p => rfl
  | none => exact absurd b (l low high)
theorem bad204 : Bad (inn (rng 101 204) none) 2000 101 102 := by
  have a1 : inn (rng 101 204) none 101 = true := i_none.mpr (mem_rng.mpr (by omega))
  have a2 : inn (rng 101 204) none 102 = true := i_none.mpr (mem_rng.mpr (by omega))
  have a3 : inn (rng 101 204) none 203 = true := i_none.mpr (mem_rng.mpr (by omega))
  have a4 : inn (rng 101 204) none 204 = false := by
    cases q : inn (rng 101 204) none 204 with
    | false => rfl
    | true =>
      have := mem_rng.mp (i_none.mp q)
      omega
  generalize inn (rng 101 204) none = i at a1 a2 a3 a4
  refine ⟨by omega, by omega, by omega, a1, a2, ?_⟩
  show i 203 ≠ i 204
  rw [a3, a4]
  decide
theorem good204 : F_good [objD (rng 101 204) none] = .ok (.bl false) := by
  have l := faultT_least (rng 101 204) none 2000
  generalize faultT (rng 101 204) none 2000 = f at l
  have r := obj_right (trng (j := 204) (by omega)) l
  have g := r.go
  rw [least_bad l bad204] at g
  exact g
theorem good202 : F_good [objD (rng 101 202) none] = .ok (.bl true) := (obj_right (trng (j := 202) (by decide)) lr202).go
theorem lean_of {ns : List Int} (h : Told ns none) {b : Bool} (q : (!greatR ns) = b) : F_lean [objD ns none] = .ok (.bl b) := by
  rw [← q, ← lean_great (gs := ns) fun n => Iff.rfl]
  exact lean_ok _ _ (settle_fit h).len
theorem rich202 : greatR (rng 101 202) = false := by
  unfold greatR
  rw [List.any_eq_false]
  intro low hl
  rw [Bool.not_eq_true, List.any_eq_false]
  intro high hh
  have h1 := mem_rng.mp hl
  have h2 := mem_rng.mp hh
  unfold richK
  rw [Bool.not_eq_true, Bool.or_eq_false_iff, decide_eq_false_iff_not, decide_eq_false_iff_not, mem_rng, mem_rng]
  omega
theorem lean202 : F_lean [objD (rng 101 202) none] = .ok (.bl true) := lean_of (trng (by decide)) (by rw [rich202]; rfl)
theorem lean1 : F_lean [objD [1] none] = .ok (.bl true) := lean_of (tone (by decide)) (by decide)
theorem lean2 : F_lean [objD [2] none] = .ok (.bl true) := lean_of (tone (by decide)) (by decide)
theorem lean1000 : F_lean [objD [1000] none] = .ok (.bl true) := lean_of (tone (by decide)) (by decide)
theorem leannil : F_lean [objD [] none] = .ok (.bl true) := lean_of tnil (by decide)
theorem lean51 : F_lean [objD [500, 1000] none] = .ok (.bl false) := lean_of t51 (by decide)
theorem lean1000s : F_lean [objD [] (some 1000)] = .ok (.bl false) := lean_ok _ _ (settle_fit t1000s).len
end Ma
end
section
set_option maxRecDepth 100000
set_option maxHeartbeats 1000000
set_option exponentiation.threshold 1000
namespace Ma
open PySem PySem.Spec L2 Vx Dv Ev
open Out (guard)
abbrev le0 (N : D) : Vx.Env := [.sh N, .no, .no, .no, .no, .no]
theorem row_fault {A B C E : Option D} : lc2_law [A, B, C, E, none, none] = .ok (.lst [pairD (1, 1), pairD (500, 500), .non, pairD (3, 3), .non]) := by
  have sz0 : (0 : Nat) ≤ sizeLine := Nat.zero_le _
  have sz1 : (1 : Nat) ≤ sizeLine := Nat.le_trans (by decide) szl
  have sz2 : (2 : Nat) ≤ sizeLine := Nat.le_trans (by decide) szl
  have sz5 : (5 : Nat) ≤ sizeLine := Nat.le_trans (by decide) szl
  have m1 : makeD 0 F_Lets_init [] [.lst [.int 1, .int 2], .non] = .ok (objD [1, 2] none) := make_ok t12
  have m2 : makeD 0 F_Lets_init [] [.lst [.int 500, .int 1000], .non] = .ok (objD [500, 1000] none) := make_ok t51
  have m3 : makeD 0 F_Lets_init [] [.lst [.int 1], .int 4] = .ok (objD [1] (some 4)) := make_ok t14s
  have m4 : makeD 0 F_Lets_init [] [.lst [.int 3], .int 7] = .ok (objD [3] (some 7)) := make_ok t37s
  have m5 : makeD 0 F_Lets_init [] [.lst [], .int 1] = .ok (objD [] (some 1)) := make_ok t1s
  have f1 := (obj_right t12 l12).fa
  have f2 := (obj_right t51 l51).fa
  have f3 := (obj_right t14s l14s).fa
  have f4 := (obj_right t37s l37s).fa
  have f5 := (obj_right t1s l1s).fa
  generalize objD [1, 2] none = o1 at m1 f1
  generalize objD [500, 1000] none = o2 at m2 f2
  generalize objD [1] (some 4) = o3 at m3 f3
  generalize objD [3] (some 7) = o4 at m4 f4
  generalize objD [] (some 1) = o5 at m5 f5
  simp only [optP] at f1 f2 f3 f4 f5
  have i5 : ∀ ds, itemsL (.lst ds) = .ok ds := fun ds => rfl
  have s5 : ∀ ds, seqD (.lst ds) = .ok ds := fun ds => rfl
  unfold lc2_law lcP compD
  simp only [Out.bind_ok, List.length_cons, List.length_nil, Nat.zero_add, Nat.reduceAdd, Out.guard_of (decide_eq_true sz0), Out.guard_of (decide_eq_true sz1), Out.guard_of (decide_eq_true sz2), Out.guard_of (decide_eq_true sz5), i5, compL, compF, wipeV, List.foldl, List.set, decide_true, Out.guard_true, if_true, getV_succ, getV_cons0, one1, s5, m1, m2, m3, m4, m5, f1, f2, f3, f4, f5, Option.toList, List.cons_append, List.nil_append]
theorem row_told : neD (.lst [pairD (1, 1), pairD (500, 500), .non, pairD (3, 3), .non]) (.lst [pairD (1, 1), pairD (500, 500), .non, pairD (3, 3), .non]) = .ok (.bl false) := by
  have sh : SeqAt.shaped (py (.lst [pairD (1, 1), pairD (500, 500), .non, pairD (3, 3), .non])) = true := by
    show (PyData.canLay0 (.list [.tuple [.int 1, .int 1], .tuple [.int 500, .int 500], .none, .tuple [.int 3, .int 3], .none]) && decide (PyData.depth (.list [.tuple [.int 1, .int 1], .tuple [.int 500, .int 500], .none, .tuple [.int 3, .int 3], .none]) ≤ 64)) = true
    simp only [PyData.canLay0, PyData.canLayAll0, PyData.depth, PyData.depthAll]
    rfl
  unfold neD
  rw [Out.guard_of (by rw [sh]; rfl)]
  rfl
theorem row_lean {A B C E F : Option D} : lc3_law [A, B, C, none, E, F] = .ok (.lst [.bl true, .bl true, .bl true]) := by
  have sz1 : (1 : Nat) ≤ sizeLine := Nat.le_trans (by decide) szl
  have sz3 : (3 : Nat) ≤ sizeLine := Nat.le_trans (by decide) szl
  have m1 : makeD 0 F_Lets_init [.non] [.lst [.int 1]] = .ok (objD [1] none) := make1_ok (ns := [1]) (tone (by decide))
  have m2 : makeD 0 F_Lets_init [.non] [.lst [.int 2]] = .ok (objD [2] none) := make1_ok (ns := [2]) (tone (by decide))
  have m3 : makeD 0 F_Lets_init [.non] [.lst [.int 1000]] = .ok (objD [1000] none) := make1_ok (ns := [1000]) (tone (by decide))
  have f1 := lean1
  have f2 := lean2
  have f3 := lean1000
  generalize objD [1] none = o1 at m1 f1
  generalize objD [2] none = o2 at m2 f2
  generalize objD [1000] none = o3 at m3 f3
  have i5 : ∀ ds, itemsL (.lst ds) = .ok ds := fun ds => rfl
  unfold lc3_law lcP compD
  simp only [Out.bind_ok, List.length_cons, List.length_nil, Nat.zero_add, Nat.reduceAdd, Out.guard_of (decide_eq_true sz1), Out.guard_of (decide_eq_true sz3), i5, compL, compF, wipeV, List.foldl, List.set, decide_true, Out.guard_true, if_true, getV_succ, getV_cons0, m1, m2, m3, f1, f2, f3, Option.toList, List.cons_append, List.nil_append]
theorem fb_law {N : D} {ns : List Int} {i : Int} (hi : 0 ≤ i ∧ i < 1000) : fb1_law [.sh (.scr ns), .sh (.int i), .no, .no, .no, .no] = .nx [.sh (.scr ns), .sh (.int i), .no, .no, .no, .no] := by
  obtain ⟨a, s, c, hg, g⟩ := generator_ok ns hi
  obtain ⟨x, hx⟩ := law_right_ok (a := a) (n := 0) (g.less (by decide))
  simp [fb1_law, frzE, frz, hg, callT, hx, toBE]
theorem law_1 {ns : List Int} : ∃ c, loose c ∧ (fun ρ : Vx.Env => (flatI (fun ρ => ((Out.ok (D.int 4)).bind fun d => (Out.ok []).bind fun ds => .ok (d :: ds)).bind rng1) ρ).fin fun ds ρ => forL (fun d ρ => setC ρ 1 (.sh d)) fb1_law ds ρ) (le0 (.scr ns)) = .nx [.sh (.scr ns), c, .no, .no, .no, .no] := by
  have er : rng1 [.int 4] = .ok ((rng 0 4).map .int) := rng1_ok (by decide)
  obtain ⟨ρ', h1, c, hc, h2⟩ := forL_rel (f := fun d ρ => setC ρ 1 (.sh d)) (body := fb1_law) (R := fun (_ : Unit) ρ => ∃ c, loose c ∧ ρ = [.sh (.scr ns), c, .no, .no, .no, .no]) (step := fun _ _ => ()) (ds := (rng 0 4).map .int) (s := ()) (ρ := le0 (.scr ns)) ⟨.no, rfl, rfl⟩ (fun d hd k ρ hI => by
    obtain ⟨c, hc, rfl⟩ := hI
    obtain ⟨i, hh, rfl⟩ := List.mem_map.mp hd
    have := mem_rng.mp hh
    exact ⟨[.sh (.scr ns), .sh (.int i), .no, .no, .no, .no], _, setC_eq (by exact hc), fb_law (N := .non) (by omega), .sh (.int i), rfl, rfl⟩)
  refine ⟨c, hc, ?_⟩
  rw [← h2, ← h1]
  generalize fb1_law = body
  simp [flatI, er]
theorem law_2 {ns : List Int} {c : Cell} : (fun ρ : Vx.Env => ((((frzE [] (fun ρ => ((getV ρ 0).bind fun d => ((Out.ok (D.int 4)).bind fun d => (Out.ok []).bind fun ds => .ok (d :: ds)).bind fun ds => .ok (d :: ds)).bind fun ds => guard (decide (ds.length = 2)) (F__law_generator ds)) ρ).bind fun d ρ => callT F__law_great_right d ρ).bind toBE).bind fun c ρ => .ok (!c) ρ).fin fun b ρ => if b = true then ((flatE (fun ρ => Out.ok (D.bl false)) ρ).fin fun d ρ => .rt d ρ) else (.nx ρ)) [.sh (.scr ns), c, .no, .no, .no, .no] = .nx [.sh (.scr ns), c, .no, .no, .no, .no] := by
  obtain ⟨a, s, k, hg, g⟩ := generator_ok ns (i := 4) (by decide)
  obtain ⟨x, hx⟩ := law_great_right_ok (a := a) (n := 0) (g.less (by decide))
  simp [frzE, frz, hg, callT, hx, toBE]
theorem law_3 {N : D} {c : Cell} : (fun ρ : Vx.Env => (frzE [] (fun ρ => lc2_law ρ) ρ).fin fun d ρ => orStuck (setC ρ 2 (.ow d)) .nx) [.sh N, c, .no, .no, .no, .no] = .nx [.sh N, c, .ow (.lst [pairD (1, 1), pairD (500, 500), .non, pairD (3, 3), .non]), .no, .no, .no] := by
  have e : frzE [] (fun ρ => lc2_law ρ) [.sh N, c, .no, .no, .no, .no] = .ok (.lst [pairD (1, 1), pairD (500, 500), .non, pairD (3, 3), .non]) [.sh N, c, .no, .no, .no, .no] := by
    unfold frzE
    rw [show viewS (frz [] [.sh N, c, .no, .no, .no, .no]) = [some N, c.shared, none, none, none, none] from rfl]
    simp only [row_fault]
    rfl
  show (frzE [] (fun ρ => lc2_law ρ) [.sh N, c, .no, .no, .no, .no]).fin _ = _
  rw [e, Res.fin_ok, setC_eq (by rfl)]
  rfl
abbrev le4 (N : D) (c : Cell) : Vx.Env := [.sh N, c, .ow (.lst [pairD (1, 1), pairD (500, 500), .non, pairD (3, 3), .non]), .no, .no, .no]
theorem law_4 {N : D} {c : Cell} : (fun ρ : Vx.Env => (Vx.flatB (fun ρ => ((getV ρ 2).bind fun d => (((((Out.ok (D.int 1)).bind fun d => ((Out.ok (D.int 1)).bind fun d => (Out.ok []).bind fun ds => .ok (d :: ds)).bind fun ds => .ok (d :: ds)).bind fun ds => guard (decide (ds.length ≤ sizeLine)) (.ok (.tup ds))).bind fun d => ((((Out.ok (D.int 500)).bind fun d => ((Out.ok (D.int 500)).bind fun d => (Out.ok []).bind fun ds => .ok (d :: ds)).bind fun ds => .ok (d :: ds)).bind fun ds => guard (decide (ds.length ≤ sizeLine)) (.ok (.tup ds))).bind fun d => ((Out.ok D.non).bind fun d => ((((Out.ok (D.int 3)).bind fun d => ((Out.ok (D.int 3)).bind fun d => (Out.ok []).bind fun ds => .ok (d :: ds)).bind fun ds => .ok (d :: ds)).bind fun ds => guard (decide (ds.length ≤ sizeLine)) (.ok (.tup ds))).bind fun d => ((Out.ok D.non).bind fun d => (Out.ok []).bind fun ds => .ok (d :: ds)).bind fun ds => .ok (d :: ds)).bind fun ds => .ok (d :: ds)).bind fun ds => .ok (d :: ds)).bind fun ds => .ok (d :: ds)).bind fun ds => guard (decide (ds.length ≤ sizeLine)) (.ok (.lst ds))).bind fun e => neD d e).bind toB) ρ).fin fun b ρ => if b = true then ((flatE (fun ρ => Out.ok (D.bl false)) ρ).fin fun d ρ => .rt d ρ) else (.nx ρ)) (le4 N c) = .nx (le4 N c) := by
  have sz2 : (2 : Nat) ≤ sizeLine := Nat.le_trans (by decide) szl
  have sz5 : (5 : Nat) ≤ sizeLine := Nat.le_trans (by decide) szl
  have r := row_told
  rw [show pairD (1, 1) = .tup [.int 1, .int 1] from rfl, show pairD (500, 500) = .tup [.int 500, .int 500] from rfl, show pairD (3, 3) = .tup [.int 3, .int 3] from rfl] at r
  have ef : Vx.flatB (fun ρ => ((getV ρ 2).bind fun d => (((((Out.ok (D.int 1)).bind fun d => ((Out.ok (D.int 1)).bind fun d => (Out.ok []).bind fun ds => .ok (d :: ds)).bind fun ds => .ok (d :: ds)).bind fun ds => guard (decide (ds.length ≤ sizeLine)) (.ok (.tup ds))).bind fun d => ((((Out.ok (D.int 500)).bind fun d => ((Out.ok (D.int 500)).bind fun d => (Out.ok []).bind fun ds => .ok (d :: ds)).bind fun ds => .ok (d :: ds)).bind fun ds => guard (decide (ds.length ≤ sizeLine)) (.ok (.tup ds))).bind fun d => ((Out.ok D.non).bind fun d => ((((Out.ok (D.int 3)).bind fun d => ((Out.ok (D.int 3)).bind fun d => (Out.ok []).bind fun ds => .ok (d :: ds)).bind fun ds => .ok (d :: ds)).bind fun ds => guard (decide (ds.length ≤ sizeLine)) (.ok (.tup ds))).bind fun d => ((Out.ok D.non).bind fun d => (Out.ok []).bind fun ds => .ok (d :: ds)).bind fun ds => .ok (d :: ds)).bind fun ds => .ok (d :: ds)).bind fun ds => .ok (d :: ds)).bind fun ds => .ok (d :: ds)).bind fun ds => guard (decide (ds.length ≤ sizeLine)) (.ok (.lst ds))).bind fun e => neD d e).bind toB) (le4 N c) = .ok false (le4 N c) := by
    refine flatB_ok ?_
    simp only [le4, viewA_cons, viewA_nil, all_ow, getV_succ, getV_cons0, Out.bind_ok, List.length_cons, List.length_nil, Nat.zero_add, Nat.reduceAdd, Out.guard_of (decide_eq_true sz2), Out.guard_of (decide_eq_true sz5), show pairD (1, 1) = .tup [.int 1, .int 1] from rfl, show pairD (500, 500) = .tup [.int 500, .int 500] from rfl, show pairD (3, 3) = .tup [.int 3, .int 3] from rfl, r, toB_bl]
  show (Vx.flatB _ (le4 N c)).fin _ = _
  rw [ef, Res.fin_ok, if_neg (by decide)]
theorem notB_tt : notBD (.bl true) (.bl true) = .ok (.bl false) := rfl
theorem notB_ff : notBD (.bl false) (.bl false) = .ok (.bl false) := rfl
theorem law_5 {N : D} {c : Cell} : (fun ρ : Vx.Env => (Vx.flatB (fun ρ => (((lc3_law ρ).bind fun d => ((((Out.ok (D.bl true)).bind fun d => (Out.ok []).bind fun ds => .ok (d :: ds)).bind fun ds => guard (decide (ds.length ≤ sizeLine)) (.ok (.lst ds))).bind fun d => (Out.ok (D.int 3)).bind fun e => mulD d e).bind fun e => neD d e).bind toB).bind fun c => if c = true then .ok true else (((((((((Out.ok []).bind fun ds => guard (decide (ds.length ≤ sizeLine)) (.ok (.lst ds))).bind fun d => ((Out.ok (D.int 1000)).bind fun d => (Out.ok []).bind fun ds => .ok (d :: ds)).bind fun ds => .ok (d :: ds)).bind fun ds => guard (decide (ds.length + ([] : List D).length + 1 = 3)) (makeD 0 F_Lets_init [] ds)).bind fun d => (Out.ok []).bind fun ds => .ok (d :: ds)).bind fun ds => guard (decide (ds.length = 1)) (F_lean ds)).bind fun d => (Out.ok (D.bl false)).bind fun e => notBD d e).bind toB).bind fun c => if c = true then .ok true else ((((((((Out.ok []).bind fun ds => guard (decide (ds.length ≤ sizeLine)) (.ok (.lst ds))).bind fun d => (Out.ok []).bind fun ds => .ok (d :: ds)).bind fun ds => guard (decide (ds.length + ([D.non] : List D).length + 1 = 3)) (makeD 0 F_Lets_init [D.non] ds)).bind fun d => (Out.ok []).bind fun ds => .ok (d :: ds)).bind fun ds => guard (decide (ds.length = 1)) (F_lean ds)).bind fun d => (Out.ok (D.bl true)).bind fun e => notBD d e).bind toB))) ρ).fin fun b ρ => if b = true then ((flatE (fun ρ => Out.ok (D.bl false)) ρ).fin fun d ρ => .rt d ρ) else (.nx ρ)) (le4 N c) = .nx (le4 N c) := by
  have sz0 : (0 : Nat) ≤ sizeLine := Nat.zero_le _
  have sz1 : (1 : Nat) ≤ sizeLine := Nat.le_trans (by decide) szl
  have e1 := row_lean (A := some N) (B := c.all) (C := some (.lst [pairD (1, 1), pairD (500, 500), .non, pairD (3, 3), .non])) (E := none) (F := none)
  have e2 : mulD (.lst [.bl true]) (.int 3) = .ok (.lst [.bl true, .bl true, .bl true]) := by
    show guard (decide (-(2 ^ 63) ≤ (3 : Int) ∧ (3 : Int) < 2 ^ 63 ∧ 1 * (3 : Int).toNat ≤ sizeLine)) _ = _
    rw [Out.guard_of (by rw [decide_eq_true_eq]; exact ⟨by decide, by decide, Nat.le_trans (by decide) szl⟩)]
    rfl
  have e3 : neD (.lst [.bl true, .bl true, .bl true]) (.lst [.bl true, .bl true, .bl true]) = .ok (.bl false) := by
    have sh := sh_bls [true, true, true]
    unfold neD
    rw [Out.guard_of (by rw [show SeqAt.shaped (py (.lst [.bl true, .bl true, .bl true])) = true from sh]; rfl)]
    rfl
  have m1 : makeD 0 F_Lets_init [] [.lst [], .int 1000] = .ok (objD [] (some 1000)) := make_ok t1000s
  have m2 : makeD 0 F_Lets_init [.non] [.lst []] = .ok (objD [] none) := make1_ok (ns := []) tnil
  have f1 := lean1000s
  have f2 := leannil
  generalize objD [] (some 1000) = o1 at m1 f1
  generalize objD [] none = o2 at m2 f2
  have ef : Vx.flatB (fun ρ => (((lc3_law ρ).bind fun d => ((((Out.ok (D.bl true)).bind fun d => (Out.ok []).bind fun ds => .ok (d :: ds)).bind fun ds => guard (decide (ds.length ≤ sizeLine)) (.ok (.lst ds))).bind fun d => (Out.ok (D.int 3)).bind fun e => mulD d e).bind fun e => neD d e).bind toB).bind fun c => if c = true then .ok true else (((((((((Out.ok []).bind fun ds => guard (decide (ds.length ≤ sizeLine)) (.ok (.lst ds))).bind fun d => ((Out.ok (D.int 1000)).bind fun d => (Out.ok []).bind fun ds => .ok (d :: ds)).bind fun ds => .ok (d :: ds)).bind fun ds => guard (decide (ds.length + ([] : List D).length + 1 = 3)) (makeD 0 F_Lets_init [] ds)).bind fun d => (Out.ok []).bind fun ds => .ok (d :: ds)).bind fun ds => guard (decide (ds.length = 1)) (F_lean ds)).bind fun d => (Out.ok (D.bl false)).bind fun e => notBD d e).bind toB).bind fun c => if c = true then .ok true else ((((((((Out.ok []).bind fun ds => guard (decide (ds.length ≤ sizeLine)) (.ok (.lst ds))).bind fun d => (Out.ok []).bind fun ds => .ok (d :: ds)).bind fun ds => guard (decide (ds.length + ([D.non] : List D).length + 1 = 3)) (makeD 0 F_Lets_init [D.non] ds)).bind fun d => (Out.ok []).bind fun ds => .ok (d :: ds)).bind fun ds => guard (decide (ds.length = 1)) (F_lean ds)).bind fun d => (Out.ok (D.bl true)).bind fun e => notBD d e).bind toB))) (le4 N c) = .ok false (le4 N c) := by
    refine flatB_ok ?_
    rw [show viewA (le4 N c) = [some N, c.all, some (.lst [pairD (1, 1), pairD (500, 500), .non, pairD (3, 3), .non]), none, none, none] from rfl]
    simp only [e1, Out.bind_ok, List.length_cons, List.length_nil, Nat.zero_add, Nat.reduceAdd, Out.guard_of (decide_eq_true sz0), Out.guard_of (decide_eq_true sz1), e2, e3, toB_bl, Bool.false_eq_true, if_false, decide_true, Out.guard_true, m1, m2, f1, f2, notB_tt, notB_ff]
  show (Vx.flatB _ (le4 N c)).fin _ = _
  rw [ef, Res.fin_ok, if_neg (by decide)]
theorem mk51 : makeD 0 F_Lets_init [.non] [.lst [.int 500, .int 1000]] = .ok (objD [500, 1000] none) := make1_ok (ns := [500, 1000]) t51
theorem law_6 {N : D} {c : Cell} : (fun ρ : Vx.Env => (Vx.flatB (fun ρ => (((((((((Out.ok (D.int 500)).bind fun d => ((Out.ok (D.int 1000)).bind fun d => (Out.ok []).bind fun ds => .ok (d :: ds)).bind fun ds => .ok (d :: ds)).bind fun ds => guard (decide (ds.length ≤ sizeLine)) (.ok (.lst ds))).bind fun d => (Out.ok []).bind fun ds => .ok (d :: ds)).bind fun ds => guard (decide (ds.length + ([D.non] : List D).length + 1 = 3)) (makeD 0 F_Lets_init [D.non] ds)).bind fun d => (Out.ok []).bind fun ds => .ok (d :: ds)).bind fun ds => guard (decide (ds.length = 1)) (F_lean ds)).bind fun d => (Out.ok (D.bl false)).bind fun e => notBD d e).bind toB).bind fun c => if c = true then .ok true else ((((((((((Out.ok (D.int 1)).bind fun d => ((Out.ok (D.int 4)).bind fun d => (Out.ok []).bind fun ds => .ok (d :: ds)).bind fun ds => .ok (d :: ds)).bind fun ds => guard (decide (ds.length ≤ sizeLine)) (.ok (.lst ds))).bind fun d => (Out.ok []).bind fun ds => .ok (d :: ds)).bind fun ds => guard (decide (ds.length + ([D.non] : List D).length + 1 = 3)) (makeD 0 F_Lets_init [D.non] ds)).bind fun d => ((Out.ok (D.int 10000)).bind fun d => (Out.ok []).bind fun ds => .ok (d :: ds)).bind fun ds => .ok (d :: ds)).bind fun ds => guard (decide (ds.length = 2)) (F_good_to ds)).bind fun d => (Out.ok (D.bl true)).bind fun e => notBD d e).bind toB).bind fun c => if c = true then .ok true else (((((((((Out.ok (D.int 500)).bind fun d => ((Out.ok (D.int 1000)).bind fun d => (Out.ok []).bind fun ds => .ok (d :: ds)).bind fun ds => .ok (d :: ds)).bind fun ds => guard (decide (ds.length ≤ sizeLine)) (.ok (.lst ds))).bind fun d => (Out.ok []).bind fun ds => .ok (d :: ds)).bind fun ds => guard (decide (ds.length + ([D.non] : List D).length + 1 = 3)) (makeD 0 F_Lets_init [D.non] ds)).bind fun d => ((Out.ok (D.int 10000)).bind fun d => (Out.ok []).bind fun ds => .ok (d :: ds)).bind fun ds => .ok (d :: ds)).bind fun ds => guard (decide (ds.length = 2)) (F_good_to ds)).bind fun d => (Out.ok (D.bl false)).bind fun e => notBD d e).bind toB))) ρ).fin fun b ρ => if b = true then ((flatE (fun ρ => Out.ok (D.bl false)) ρ).fin fun d ρ => .rt d ρ) else (.nx ρ)) (le4 N c) = .nx (le4 N c) := by
  have sz2 : (2 : Nat) ≤ sizeLine := Nat.le_trans (by decide) szl
  have m1 := mk51
  have m2 : makeD 0 F_Lets_init [.non] [.lst [.int 1, .int 4]] = .ok (objD [1, 4] none) := make1_ok (ns := [1, 4]) t14
  have f1 := lean51
  have f2 := (obj_right t14 l14).gt 10000 (by decide)
  have f3 := (obj_right t51 l51).gt 10000 (by decide)
  rw [show wished none 10000 = true from rfl] at f2
  rw [show wished (some (500, 500)) 10000 = false from rfl] at f3
  generalize objD [500, 1000] none = o1 at m1 f1 f3
  generalize objD [1, 4] none = o2 at m2 f2
  have ef : Vx.flatB (fun ρ => (((((((((Out.ok (D.int 500)).bind fun d => ((Out.ok (D.int 1000)).bind fun d => (Out.ok []).bind fun ds => .ok (d :: ds)).bind fun ds => .ok (d :: ds)).bind fun ds => guard (decide (ds.length ≤ sizeLine)) (.ok (.lst ds))).bind fun d => (Out.ok []).bind fun ds => .ok (d :: ds)).bind fun ds => guard (decide (ds.length + ([D.non] : List D).length + 1 = 3)) (makeD 0 F_Lets_init [D.non] ds)).bind fun d => (Out.ok []).bind fun ds => .ok (d :: ds)).bind fun ds => guard (decide (ds.length = 1)) (F_lean ds)).bind fun d => (Out.ok (D.bl false)).bind fun e => notBD d e).bind toB).bind fun c => if c = true then .ok true else ((((((((((Out.ok (D.int 1)).bind fun d => ((Out.ok (D.int 4)).bind fun d => (Out.ok []).bind fun ds => .ok (d :: ds)).bind fun ds => .ok (d :: ds)).bind fun ds => guard (decide (ds.length ≤ sizeLine)) (.ok (.lst ds))).bind fun d => (Out.ok []).bind fun ds => .ok (d :: ds)).bind fun ds => guard (decide (ds.length + ([D.non] : List D).length + 1 = 3)) (makeD 0 F_Lets_init [D.non] ds)).bind fun d => ((Out.ok (D.int 10000)).bind fun d => (Out.ok []).bind fun ds => .ok (d :: ds)).bind fun ds => .ok (d :: ds)).bind fun ds => guard (decide (ds.length = 2)) (F_good_to ds)).bind fun d => (Out.ok (D.bl true)).bind fun e => notBD d e).bind toB).bind fun c => if c = true then .ok true else (((((((((Out.ok (D.int 500)).bind fun d => ((Out.ok (D.int 1000)).bind fun d => (Out.ok []).bind fun ds => .ok (d :: ds)).bind fun ds => .ok (d :: ds)).bind fun ds => guard (decide (ds.length ≤ sizeLine)) (.ok (.lst ds))).bind fun d => (Out.ok []).bind fun ds => .ok (d :: ds)).bind fun ds => guard (decide (ds.length + ([D.non] : List D).length + 1 = 3)) (makeD 0 F_Lets_init [D.non] ds)).bind fun d => ((Out.ok (D.int 10000)).bind fun d => (Out.ok []).bind fun ds => .ok (d :: ds)).bind fun ds => .ok (d :: ds)).bind fun ds => guard (decide (ds.length = 2)) (F_good_to ds)).bind fun d => (Out.ok (D.bl false)).bind fun e => notBD d e).bind toB))) (le4 N c) = .ok false (le4 N c) := by
    refine flatB_ok ?_
    simp only [Out.bind_ok, List.length_cons, List.length_nil, Nat.zero_add, Nat.reduceAdd, Out.guard_of (decide_eq_true sz2), toB_bl, Bool.false_eq_true, if_false, decide_true, Out.guard_true, m1, m2, f1, f2, f3, notB_tt, notB_ff]
  show (Vx.flatB _ (le4 N c)).fin _ = _
  rw [ef, Res.fin_ok, if_neg (by decide)]
theorem law_7 {N : D} {c : Cell} : (fun ρ : Vx.Env => (Vx.flatB (fun ρ => (((((((((Out.ok (D.int 500)).bind fun d => ((Out.ok (D.int 1000)).bind fun d => (Out.ok []).bind fun ds => .ok (d :: ds)).bind fun ds => .ok (d :: ds)).bind fun ds => guard (decide (ds.length ≤ sizeLine)) (.ok (.lst ds))).bind fun d => (Out.ok []).bind fun ds => .ok (d :: ds)).bind fun ds => guard (decide (ds.length + ([D.non] : List D).length + 1 = 3)) (makeD 0 F_Lets_init [D.non] ds)).bind fun d => ((Out.ok (D.int 1002)).bind fun d => (Out.ok []).bind fun ds => .ok (d :: ds)).bind fun ds => .ok (d :: ds)).bind fun ds => guard (decide (ds.length = 2)) (F_good_to ds)).bind fun d => (Out.ok (D.bl true)).bind fun e => notBD d e).bind toB).bind fun c => if c = true then .ok true else (((((((((Out.ok (D.int 500)).bind fun d => ((Out.ok (D.int 1000)).bind fun d => (Out.ok []).bind fun ds => .ok (d :: ds)).bind fun ds => .ok (d :: ds)).bind fun ds => guard (decide (ds.length ≤ sizeLine)) (.ok (.lst ds))).bind fun d => (Out.ok []).bind fun ds => .ok (d :: ds)).bind fun ds => guard (decide (ds.length + ([D.non] : List D).length + 1 = 3)) (makeD 0 F_Lets_init [D.non] ds)).bind fun d => (Out.ok []).bind fun ds => .ok (d :: ds)).bind fun ds => guard (decide (ds.length = 1)) (F_holds_to ds)).bind fun d => (Out.ok (D.int 1002)).bind fun e => neD d e).bind toB)) ρ).fin fun b ρ => if b = true then ((flatE (fun ρ => Out.ok (D.bl false)) ρ).fin fun d ρ => .rt d ρ) else (.nx ρ)) (le4 N c) = .nx (le4 N c) := by
  have sz2 : (2 : Nat) ≤ sizeLine := Nat.le_trans (by decide) szl
  have m1 := mk51
  have f1 := (obj_right t51 l51).gt 1002 (by decide)
  have f2 := (obj_right t51 l51).ho
  rw [show wished (some (500, 500)) 1002 = true from rfl] at f1
  rw [show holdsT (some (500, 500)) = .int 1002 from rfl] at f2
  have nh : neD (.int 1002) (.int 1002) = .ok (.bl false) := (ne_int 1002 1002).trans (by simp)
  generalize objD [500, 1000] none = o1 at m1 f1 f2
  have ef : Vx.flatB (fun ρ => (((((((((Out.ok (D.int 500)).bind fun d => ((Out.ok (D.int 1000)).bind fun d => (Out.ok []).bind fun ds => .ok (d :: ds)).bind fun ds => .ok (d :: ds)).bind fun ds => guard (decide (ds.length ≤ sizeLine)) (.ok (.lst ds))).bind fun d => (Out.ok []).bind fun ds => .ok (d :: ds)).bind fun ds => guard (decide (ds.length + ([D.non] : List D).length + 1 = 3)) (makeD 0 F_Lets_init [D.non] ds)).bind fun d => ((Out.ok (D.int 1002)).bind fun d => (Out.ok []).bind fun ds => .ok (d :: ds)).bind fun ds => .ok (d :: ds)).bind fun ds => guard (decide (ds.length = 2)) (F_good_to ds)).bind fun d => (Out.ok (D.bl true)).bind fun e => notBD d e).bind toB).bind fun c => if c = true then .ok true else (((((((((Out.ok (D.int 500)).bind fun d => ((Out.ok (D.int 1000)).bind fun d => (Out.ok []).bind fun ds => .ok (d :: ds)).bind fun ds => .ok (d :: ds)).bind fun ds => guard (decide (ds.length ≤ sizeLine)) (.ok (.lst ds))).bind fun d => (Out.ok []).bind fun ds => .ok (d :: ds)).bind fun ds => guard (decide (ds.length + ([D.non] : List D).length + 1 = 3)) (makeD 0 F_Lets_init [D.non] ds)).bind fun d => (Out.ok []).bind fun ds => .ok (d :: ds)).bind fun ds => guard (decide (ds.length = 1)) (F_holds_to ds)).bind fun d => (Out.ok (D.int 1002)).bind fun e => neD d e).bind toB)) (le4 N c) = .ok false (le4 N c) := by
    refine flatB_ok ?_
    simp only [Out.bind_ok, List.length_cons, List.length_nil, Nat.zero_add, Nat.reduceAdd, Out.guard_of (decide_eq_true sz2), toB_bl, Bool.false_eq_true, if_false, decide_true, Out.guard_true, m1, f1, f2, nh, notB_tt, notB_ff]
  show (Vx.flatB _ (le4 N c)).fin _ = _
  rw [ef, Res.fin_ok, if_neg (by decide)]
theorem law_8 {N : D} {c : Cell} : (fun ρ : Vx.Env => (flatE (fun ρ => ((((((((Out.ok (D.int 101)).bind fun d => (Out.ok (D.int 202)).bind fun e => match d, e with | .int i, .int j => rgD i j | _, _ => .stuck).bind fun d => (Out.ok []).bind fun ds => .ok (d :: ds)).bind fun ds => guard (decide (ds.length + ([D.non] : List D).length + 1 = 3)) (makeD 0 F_Lets_init [D.non] ds)).bind fun d => (Out.ok []).bind fun ds => .ok (d :: ds)).bind fun ds => guard (decide (ds.length = 1)) (F_good ds)).bind fun d => (Out.ok (D.bl true)).bind fun e => isBD d e).bind toB).bind fun c => if c = true then (((((((((Out.ok (D.int 101)).bind fun d => (Out.ok (D.int 202)).bind fun e => match d, e with | .int i, .int j => rgD i j | _, _ => .stuck).bind fun d => (Out.ok []).bind fun ds => .ok (d :: ds)).bind fun ds => guard (decide (ds.length + ([D.non] : List D).length + 1 = 3)) (makeD 0 F_Lets_init [D.non] ds)).bind fun d => (Out.ok []).bind fun ds => .ok (d :: ds)).bind fun ds => guard (decide (ds.length = 1)) (F_lean ds)).bind fun d => (Out.ok (D.bl true)).bind fun e => isBD d e).bind toB).bind fun c => if c = true then (((((((Out.ok (D.int 101)).bind fun d => (Out.ok (D.int 204)).bind fun e => match d, e with | .int i, .int j => rgD i j | _, _ => .stuck).bind fun d => (Out.ok []).bind fun ds => .ok (d :: ds)).bind fun ds => guard (decide (ds.length + ([D.non] : List D).length + 1 = 3)) (makeD 0 F_Lets_init [D.non] ds)).bind fun d => (Out.ok []).bind fun ds => .ok (d :: ds)).bind fun ds => guard (decide (ds.length = 1)) (F_good ds)).bind fun d => (Out.ok (D.bl false)).bind fun e => isBD d e) else .ok (.bl false)) else .ok (.bl false)) ρ).fin fun d ρ => .rt d ρ) (le4 N c) = .rt (.bl true) (le4 N c) := by
  have r1 : rgD 101 202 = .ok (.lst ((rng 101 202).map .int)) := rgD_ok (by decide) (by decide)
  have r2 : rgD 101 204 = .ok (.lst ((rng 101 204).map .int)) := rgD_ok (by decide) (by decide)
  have m1 : makeD 0 F_Lets_init [.non] [.lst ((rng 101 202).map .int)] = .ok (objD (rng 101 202) none) := make1_ok (trng (by omega))
  have m2 : makeD 0 F_Lets_init [.non] [.lst ((rng 101 204).map .int)] = .ok (objD (rng 101 204) none) := make1_ok (trng (by omega))
  have f1 := good202
  have f2 := lean202
  have f3 := good204
  generalize objD (rng 101 202) none = o1 at m1 f1 f2
  generalize objD (rng 101 204) none = o2 at m2 f3
  generalize (rng 101 202).map D.int = y1 at r1 m1
  generalize (rng 101 204).map D.int = y2 at r2 m2
  have b1 : isBD (.bl true) (.bl true) = .ok (.bl true) := rfl
  have b2 : isBD (.bl false) (.bl false) = .ok (.bl true) := rfl
  have ef : flatE (fun ρ => ((((((((Out.ok (D.int 101)).bind fun d => (Out.ok (D.int 202)).bind fun e => match d, e with | .int i, .int j => rgD i j | _, _ => .stuck).bind fun d => (Out.ok []).bind fun ds => .ok (d :: ds)).bind fun ds => guard (decide (ds.length + ([D.non] : List D).length + 1 = 3)) (makeD 0 F_Lets_init [D.non] ds)).bind fun d => (Out.ok []).bind fun ds => .ok (d :: ds)).bind fun ds => guard (decide (ds.length = 1)) (F_good ds)).bind fun d => (Out.ok (D.bl true)).bind fun e => isBD d e).bind toB).bind fun c => if c = true then (((((((((Out.ok (D.int 101)).bind fun d => (Out.ok (D.int 202)).bind fun e => match d, e with | .int i, .int j => rgD i j | _, _ => .stuck).bind fun d => (Out.ok []).bind fun ds => .ok (d :: ds)).bind fun ds => guard (decide (ds.length + ([D.non] : List D).length + 1 = 3)) (makeD 0 F_Lets_init [D.non] ds)).bind fun d => (Out.ok []).bind fun ds => .ok (d :: ds)).bind fun ds => guard (decide (ds.length = 1)) (F_lean ds)).bind fun d => (Out.ok (D.bl true)).bind fun e => isBD d e).bind toB).bind fun c => if c = true then (((((((Out.ok (D.int 101)).bind fun d => (Out.ok (D.int 204)).bind fun e => match d, e with | .int i, .int j => rgD i j | _, _ => .stuck).bind fun d => (Out.ok []).bind fun ds => .ok (d :: ds)).bind fun ds => guard (decide (ds.length + ([D.non] : List D).length + 1 = 3)) (makeD 0 F_Lets_init [D.non] ds)).bind fun d => (Out.ok []).bind fun ds => .ok (d :: ds)).bind fun ds => guard (decide (ds.length = 1)) (F_good ds)).bind fun d => (Out.ok (D.bl false)).bind fun e => isBD d e) else .ok (.bl false)) else .ok (.bl false)) (le4 N c) = .ok (.bl true) (le4 N c) := by
    refine flatE_ok ?_ rfl
    simp only [Out.bind_ok, r1, r2, List.length_cons, List.length_nil, Nat.zero_add, Nat.reduceAdd, toB_bl, if_true, decide_true, Out.guard_true, m1, m2, f1, f2, f3, b1, b2]
  show (flatE _ (le4 N c)).fin _ = _
  rw [ef, Res.fin_ok]
/-- the plain law -/
theorem law_ok (ns : List Int) : F_law [.scr ns] = .ok (.bl true) := by
  obtain ⟨c, hc, e1⟩ := law_1 (ns := ns)
  exact outP_nx e1 (outP_nx law_2 (outP_nx law_3 (outP_nx law_4 (outP_nx law_5 (outP_nx law_6 (outP_nx law_7 (outP_end law_8)))))))
end Ma
end
theorem PySem.Challenge.cw_voicerows_k10_whole_good_and_lean_sets_holds : PySem.Challenge.rw_voicerows_k10_whole_good_and_lean_sets.Holds := by
  exact _root_.holds_of fun ns _ => Ma.law_ok ns
